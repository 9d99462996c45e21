import PyProof.Rows.All
import Wide.All
import OpenK.AllK
import Wide.FinOn
import HandS.ForMost
import HandS.Exc
import HandS.ExcOwn
import HandS.TryOnly
import HandS.Zip
import HandS.Lambda
import HandS.EndTab
import HandS.WordsExc
import HandS.TupAny
import HandS.TupMul
import HandS.TupLe
import HandS.IsInst
import HandS.SortKw
import HandS.Flow
import HandS.Small
import HandS.Defaults
import HandS.Property
import HandS.Deep
import KE.GoesNew
import HandS.AnyAll
import HandS.GenOver
import PyProof.GenArm
import PyProof.GenQ
import HandS.SortOrd
import KE.KStateDown
import HandS.Head0
import HandS.Head1
import HandS.Head2
import HandS.HeadHook4
import HandS.HeadWalk
import HandS.SetFor
import HandS.Strs
import KE.DatumOrd
import HandS.Nested
import HandS.ExcInit
import HandS.ExcField
import PySem.Challenge.RW_driftstore_k03_whole_parts
set_option Elab.async false
set_option linter.all false
/-! LA1: rows over a small prime field: sums, meetings, spans. Plain Lean, no program in sight. -/
namespace LA
class Pr (p : Nat) : Prop where
  is : p = 2 ∨ p = 3 ∨ p = 5 ∨ p = 7
instance nzPr {p : Nat} [h : Pr p] : NeZero p := ⟨by rcases h.is with rfl | rfl | rfl | rfl <;> decide⟩
instance : Pr 2 := ⟨.inl rfl⟩
instance : Pr 3 := ⟨.inr (.inl rfl)⟩
instance : Pr 5 := ⟨.inr (.inr (.inl rfl))⟩
instance : Pr 7 := ⟨.inr (.inr (.inr rfl))⟩
theorem pr_lt (p : Nat) [h : Pr p] : p ≤ 7 := by rcases h.is with rfl | rfl | rfl | rfl <;> decide
theorem pr_gt (p : Nat) [h : Pr p] : 2 ≤ p := by rcases h.is with rfl | rfl | rfl | rfl <;> decide
theorem pr_cases {p : Nat} [h : Pr p] {C : Nat → Prop} (h2 : C 2) (h3 : C 3) (h5 : C 5) (h7 : C 7) : C p := by
  rcases h.is with rfl | rfl | rfl | rfl
  · exact h2
  · exact h3
  · exact h5
  · exact h7
theorem pr_elim {p : Nat} (h : Pr p) {C : (p : Nat) → Pr p → Prop} (h2 : C 2 inferInstance) (h3 : C 3 inferInstance) (h5 : C 5 inferInstance) (h7 : C 7 inferInstance) : C p h := by
  obtain ⟨h⟩ := h
  rcases h with rfl | rfl | rfl | rfl
  · exact h2
  · exact h3
  · exact h5
  · exact h7
section
variable {p : Nat} [hp : Pr p]
/-- the inverse -/
def inv (a : Fin p) : Fin p := a ^ (p - 2)
theorem inv_mul {a : Fin p} (h : a ≠ 0) : inv a * a = 1 := by
  revert a
  refine pr_elim (C := fun p hp => ∀ {a : Fin p}, a ≠ 0 → inv a * a = 1) hp ?_ ?_ ?_ ?_ <;> decide
theorem mul_inv {a : Fin p} (h : a ≠ 0) : a * inv a = 1 := by
  have := inv_mul h
  grind
theorem one_ne : (1 : Fin p) ≠ 0 := by
  refine pr_elim (C := fun p hp => (1 : Fin p) ≠ 0) hp ?_ ?_ ?_ ?_ <;> decide
theorem mul_zero_ {a b : Fin p} (h : a * b = 0) : a = 0 ∨ b = 0 := by
  by_cases ha : a = 0
  · exact .inl ha
  · right
    have := inv_mul ha
    have e : inv a * (a * b) = b := by grind
    rw [h] at e
    grind
theorem ne_mul {a b : Fin p} (ha : a ≠ 0) (hb : b ≠ 0) : a * b ≠ 0 := fun e => (mul_zero_ e).elim ha hb
abbrev Vc (p : Nat) := List (Fin p)
/-- the number at a place, 0 outside -/
def ent (x : Vc p) (i : Nat) : Fin p := x.getD i 0
def zer (p n : Nat) [Pr p] : Vc p := List.replicate n (0 : Fin p)
/-- a row and a multiple of another -/
def add (x y : Vc p) (f : Fin p) : Vc p := List.zipWith (fun l r => l + f * r) x y
def scl (x : Vc p) (f : Fin p) : Vc p := x.map fun r => f * r
def dot (x y : Vc p) : Fin p := (List.zipWith (fun l r => l * r) x y).sum
def tms (t : List (Vc p)) (x : Vc p) : Vc p := t.map fun r => dot r x
@[simp] theorem zer_len {n : Nat} : (zer p n).length = n := by simp [zer]
@[simp] theorem ent_zer {n i : Nat} : ent (zer p n) i = 0 := by
  unfold ent zer
  rw [List.getD_eq_getElem?_getD, List.getElem?_replicate]
  split <;> rfl
@[simp] theorem add_len {x y : Vc p} {f : Fin p} : (add x y f).length = min x.length y.length := by simp [add]
theorem add_len' {x y : Vc p} {f : Fin p} {n : Nat} (hx : x.length = n) (hy : y.length = n) : (add x y f).length = n := by simp [hx, hy]
@[simp] theorem scl_len {x : Vc p} {f : Fin p} : (scl x f).length = x.length := by simp [scl]
@[simp] theorem tms_len {t : List (Vc p)} {x : Vc p} : (tms t x).length = t.length := by simp [tms]
theorem ent_out {x : Vc p} {i : Nat} (h : x.length ≤ i) : ent x i = 0 := by
  unfold ent
  rw [List.getD_eq_getElem?_getD, List.getElem?_eq_none h]
  rfl
theorem ent_at {x : Vc p} {i : Nat} (h : i < x.length) : ent x i = x[i] := by
  unfold ent
  rw [List.getD_eq_getElem?_getD, List.getElem?_eq_getElem h]
  rfl
theorem ent_add {x y : Vc p} {f : Fin p} {n i : Nat} (hx : x.length = n) (hy : y.length = n) : ent (add x y f) i = ent x i + f * ent y i := by
  by_cases h : i < n
  · rw [ent_at (by simp [hx, hy, h]), ent_at (by omega), ent_at (by omega)]
    simp [add]
  · rw [ent_out (by simp [hx, hy]; omega), ent_out (by omega), ent_out (by omega)]
    grind
theorem ent_scl {x : Vc p} {f : Fin p} {i : Nat} : ent (scl x f) i = f * ent x i := by
  by_cases h : i < x.length
  · rw [ent_at (by simp [h]), ent_at h]
    simp [scl]
  · rw [ent_out (by simp; omega), ent_out (by omega)]
    grind
theorem vext {x y : Vc p} (hl : x.length = y.length) (h : ∀ i, ent x i = ent y i) : x = y := by
  apply List.ext_getElem hl
  intro i h1 h2
  have e := h i
  rw [ent_at h1, ent_at h2] at e
  exact e
/-! ### sums -/
def sm : Nat → (Nat → Fin p) → Fin p
  | 0, _ => 0
  | n + 1, f => sm n f + f n
theorem sm_congr {f g : Nat → Fin p} : ∀ {n : Nat}, (∀ i, i < n → f i = g i) → sm n f = sm n g
  | 0, _ => rfl
  | n + 1, h => by
    unfold sm
    rw [sm_congr (n := n) fun i hi => h i (by omega), h n (by omega)]
theorem sm_add {f g : Nat → Fin p} : ∀ {n : Nat}, sm n (fun i => f i + g i) = sm n f + sm n g
  | 0 => by simp [sm]
  | n + 1 => by
    unfold sm
    rw [sm_add (n := n)]
    grind
theorem sm_mul {a : Fin p} {f : Nat → Fin p} : ∀ {n : Nat}, sm n (fun i => a * f i) = a * sm n f
  | 0 => by unfold sm; grind
  | n + 1 => by
    unfold sm
    rw [sm_mul (n := n)]
    grind
theorem sm_zero : ∀ {n : Nat}, sm n (fun _ => (0 : Fin p)) = 0
  | 0 => rfl
  | n + 1 => by
    unfold sm
    rw [sm_zero (n := n)]
    grind
theorem sm_swap {f : Nat → Nat → Fin p} {m : Nat} : ∀ {n : Nat}, sm n (fun i => sm m fun j => f i j) = sm m fun j => sm n fun i => f i j
  | 0 => by
    show (0 : Fin p) = sm m fun j => (0 : Fin p)
    rw [sm_zero]
  | n + 1 => by
    show sm n (fun i => sm m fun j => f i j) + sm m (fun j => f n j) = sm m fun j => (sm n fun i => f i j) + f n j
    rw [sm_swap (n := n), ← sm_add]
theorem sm_one {f : Nat → Fin p} {k : Nat} : ∀ {n : Nat}, k < n → (∀ i, i < n → i ≠ k → f i = 0) → sm n f = f k
  | 0, h, _ => by omega
  | n + 1, h, z => by
    unfold sm
    by_cases e : k = n
    · subst e
      rw [sm_congr (g := fun _ => 0) fun i hi => z i (by omega) (by omega), sm_zero]
      grind
    · rw [sm_one (n := n) (by omega) fun i hi => z i (by omega), z n (by omega) (by omega)]
      grind
theorem sum_cons_ {a : Fin p} {l : Vc p} : (a :: l).sum = a + l.sum := List.sum_cons
theorem sm_succ' {f : Nat → Fin p} : ∀ {n : Nat}, sm (n + 1) f = f 0 + sm n fun i => f (i + 1)
  | 0 => by simp [sm]
  | n + 1 => by
    rw [show sm (n + 1 + 1) f = sm (n + 1) f + f (n + 1) from rfl, sm_succ' (n := n)]
    rw [show sm (n + 1) (fun i => f (i + 1)) = sm n (fun i => f (i + 1)) + f (n + 1) from rfl]
    grind
theorem sum_sm : ∀ {l : Vc p}, l.sum = sm l.length fun i => ent l i
  | [] => rfl
  | a :: l => by
    rw [sum_cons_, sum_sm (l := l), List.length_cons, sm_succ']
    rfl
theorem dot_sm {x y : Vc p} {n : Nat} (hx : x.length = n) (hy : y.length = n) : dot x y = sm n fun i => ent x i * ent y i := by
  unfold dot
  rw [sum_sm]
  simp only [List.length_zipWith, hx, hy, Nat.min_self]
  apply sm_congr
  intro i hi
  rw [ent_at (by simp [hx, hy]; omega), ent_at (by omega), ent_at (by omega)]
  simp
theorem dot_comm {x y : Vc p} {n : Nat} (hx : x.length = n) (hy : y.length = n) : dot x y = dot y x := by
  rw [dot_sm hx hy, dot_sm hy hx]
  exact sm_congr fun i _ => by grind
theorem dot_add_r {x y z : Vc p} {f : Fin p} {n : Nat} (hx : x.length = n) (hy : y.length = n) (hz : z.length = n) : dot x (add y z f) = dot x y + f * dot x z := by
  rw [dot_sm hx (add_len' hy hz), dot_sm hx hy, dot_sm hx hz, ← sm_mul, ← sm_add]
  exact sm_congr fun i _ => by rw [ent_add hy hz]; grind
theorem dot_add_l {x y z : Vc p} {f : Fin p} {n : Nat} (hx : x.length = n) (hy : y.length = n) (hz : z.length = n) : dot (add y z f) x = dot y x + f * dot z x := by
  rw [dot_comm (add_len' hy hz) hx, dot_add_r hx hy hz, dot_comm hx hy, dot_comm hx hz]
theorem dot_scl_r {x y : Vc p} {f : Fin p} {n : Nat} (hx : x.length = n) (hy : y.length = n) : dot x (scl y f) = f * dot x y := by
  rw [dot_sm hx (by simp [hy]), dot_sm hx hy, ← sm_mul]
  exact sm_congr fun i _ => by rw [ent_scl]; grind
theorem dot_scl_l {x y : Vc p} {f : Fin p} {n : Nat} (hx : x.length = n) (hy : y.length = n) : dot (scl y f) x = f * dot y x := by
  rw [dot_comm (by simpa using hy) hx, dot_scl_r hx hy, dot_comm hx hy]
theorem dot_zer_r {x : Vc p} {n : Nat} (hx : x.length = n) : dot x (zer p n) = 0 := by
  rw [dot_sm hx zer_len, ← sm_zero (n := n)]
  exact sm_congr fun i _ => by rw [ent_zer]; grind
theorem dot_zer_l {x : Vc p} {n : Nat} (hx : x.length = n) : dot (zer p n) x = 0 := by rw [dot_comm zer_len hx, dot_zer_r hx]
/-! ### laws of add -/
theorem add_zero_ {x : Vc p} {n : Nat} (hx : x.length = n) {f : Fin p} : add x (zer p n) f = x := by
  apply vext (by simp [hx])
  intro i
  rw [ent_add hx zer_len, ent_zer]; grind
theorem add_f0 {x y : Vc p} {n : Nat} (hx : x.length = n) (hy : y.length = n) : add x y 0 = x := by
  apply vext (by simp [hx, hy])
  intro i
  rw [ent_add hx hy]; grind
theorem add_assoc_ {x y z : Vc p} {f g : Fin p} {n : Nat} (hx : x.length = n) (hy : y.length = n) (hz : z.length = n) : add (add x y f) z g = add (add x z g) y f := by
  apply vext (by simp [hx, hy, hz])
  intro i
  rw [ent_add (add_len' hx hy) hz, ent_add hx hy, ent_add (add_len' hx hz) hy, ent_add hx hz]; grind
theorem add_add {x y : Vc p} {f g : Fin p} {n : Nat} (hx : x.length = n) (hy : y.length = n) : add (add x y f) y g = add x y (f + g) := by
  apply vext (by simp [hx, hy])
  intro i
  rw [ent_add (add_len' hx hy) hy, ent_add hx hy, ent_add hx hy]; grind
theorem add_of {x y z : Vc p} {f g : Fin p} {n : Nat} (hx : x.length = n) (hy : y.length = n) (hz : z.length = n) : add x (add y z g) f = add (add x y f) z (f * g) := by
  apply vext (by simp [hx, hy, hz])
  intro i
  rw [ent_add (add_len' hx hy) hz, ent_add hx hy, ent_add hx (add_len' hy hz), ent_add hy hz]; grind
theorem zer_add {x : Vc p} {f : Fin p} {n : Nat} (hx : x.length = n) : add (zer p n) x f = scl x f := by
  apply vext (by simp [hx])
  intro i
  rw [ent_add zer_len hx, ent_scl, ent_zer]; grind
theorem scl_one {x : Vc p} : scl x 1 = x := by
  apply vext (by simp)
  intro i
  rw [ent_scl]; grind
theorem scl_scl {x : Vc p} {f g : Fin p} : scl (scl x f) g = scl x (g * f) := by
  apply vext (by simp)
  intro i
  rw [ent_scl, ent_scl, ent_scl]; grind
theorem add_self_neg {x : Vc p} {n : Nat} (hx : x.length = n) : add x x (-1) = zer p n := by
  apply vext (by simp [hx])
  intro i
  rw [ent_add hx hx, ent_zer]; grind
theorem sub_eq {x y : Vc p} {n : Nat} (hx : x.length = n) (hy : y.length = n) (h : add x y (-1) = zer p n) : x = y := by
  apply vext (by omega)
  intro i
  have e := ent_add (f := -1) (i := i) hx hy
  rw [h, ent_zer] at e
  grind
/-! ### spans -/
inductive Sp (n : Nat) (R : List (Vc p)) : Vc p → Prop
  | zer : Sp n R (zer p n)
  | add {x r : Vc p} (f : Fin p) : Sp n R x → r ∈ R → Sp n R (add x r f)
/-- all rows as long -/
abbrev Rs (n : Nat) (R : List (Vc p)) : Prop := ∀ r ∈ R, r.length = n
variable {n : Nat} {R Q : List (Vc p)} {x y v : Vc p}
theorem Sp.len (hR : Rs n R) (h : Sp n R x) : x.length = n := by
  induction h with
  | zer => simp
  | add f _ m ih => exact add_len' ih (hR _ m)
theorem Sp.plus (hR : Rs n R) (hx : Sp n R x) (f : Fin p) (hy : Sp n R y) : Sp n R (LA.add x y f) := by
  induction hy with
  | zer =>
    rw [add_zero_ (hx.len hR)]
    exact hx
  | add g hy m ih =>
    rw [add_of (hx.len hR) (hy.len hR) (hR _ m)]
    exact .add _ ih m
theorem Sp.mem (hR : Rs n R) (h : x ∈ R) : Sp n R x := by
  have := Sp.add (n := n) 1 (Sp.zer (n := n) (R := R)) h
  rw [zer_add (hR _ h), scl_one] at this
  exact this
theorem Sp.scl (hR : Rs n R) (hx : Sp n R x) (f : Fin p) : Sp n R (LA.scl x f) := by
  rw [← zer_add (hx.len hR)]
  exact Sp.plus hR .zer f hx
theorem Sp.sub (hR : Rs n R) (hQ : Rs n Q) (h : ∀ r ∈ R, Sp n Q r) (hx : Sp n R x) : Sp n Q x := by
  induction hx with
  | zer => exact .zer
  | add f _ m ih => exact ih.plus hQ f (h _ m)
theorem Sp.mono (h : ∀ r ∈ R, r ∈ Q) (hx : Sp n R x) : Sp n Q x := by
  induction hx with
  | zer => exact .zer
  | add f _ m ih => exact .add f ih (h _ m)
/-- a linear thing that is nought on the rows is nought on the span -/
theorem Sp.lin (hR : Rs n R) {φ : Vc p → Fin p} (h0 : φ (LA.zer p n) = 0) (ha : ∀ x y f, x.length = n → y.length = n → φ (LA.add x y f) = φ x + f * φ y) (h : ∀ r ∈ R, φ r = 0) (hx : Sp n R x) : φ x = 0 := by
  induction hx with
  | zer => exact h0
  | add f hx m ih =>
    rw [ha _ _ _ (hx.len hR) (hR _ m), ih, h _ m]
    grind
theorem Sp.ent0 (hR : Rs n R) {i : Nat} (h : ∀ r ∈ R, ent r i = 0) (hx : Sp n R x) : ent x i = 0 :=
  hx.lin hR (φ := fun x => ent x i) ent_zer (fun x y f hx hy => ent_add hx hy) h
theorem Sp.dot0 (hR : Rs n R) (hv : v.length = n) (h : ∀ r ∈ R, dot v r = 0) (hx : Sp n R x) : dot v x = 0 :=
  hx.lin hR (φ := fun x => dot v x) (dot_zer_r hv) (fun x y f hx hy => dot_add_r hv hx hy) h
end
end LA

set_option Elab.async false
set_option linter.all false
/-! LA2: leads, staircases, reduction. -/
namespace LA
section
variable {p : Nat} [hp : Pr p]
def lead (x : Vc p) : Option Nat := x.findIdx? fun a => a != 0
theorem lead_some {x : Vc p} {l : Nat} (h : lead x = some l) : l < x.length ∧ ent x l ≠ 0 ∧ ∀ j, j < l → ent x j = 0 := by
  unfold lead at h
  rw [List.findIdx?_eq_some_iff_getElem] at h
  obtain ⟨h1, h2, h3⟩ := h
  refine ⟨h1, ?_, fun j hj => ?_⟩
  · rw [ent_at h1]
    simpa using h2
  · rw [ent_at (by omega)]
    have := h3 j hj
    simpa using this
theorem lead_none {x : Vc p} (h : lead x = none) : ∀ i, ent x i = 0 := by
  intro i
  unfold lead at h
  rw [List.findIdx?_eq_none_iff] at h
  by_cases hi : i < x.length
  · rw [ent_at hi]
    have := h x[i] (List.getElem_mem hi)
    simpa using this
  · exact ent_out (by omega)
theorem lead_of {x : Vc p} {l : Nat} (h : ent x l ≠ 0) (z : ∀ j, j < l → ent x j = 0) : lead x = some l := by
  have hl : l < x.length := by
    by_cases q : l < x.length
    · exact q
    · exact absurd (ent_out (by omega)) h
  cases e : lead x with
  | none => exact absurd (lead_none e l) h
  | some k =>
    obtain ⟨h1, h2, h3⟩ := lead_some e
    by_cases c : k < l
    · exact absurd (z k c) h2
    · by_cases c2 : l < k
      · exact absurd (h3 l c2) h
      · rw [show k = l by omega]
theorem lead_zer {n : Nat} : lead (zer p n) = none := by
  cases e : lead (zer p n) with
  | none => rfl
  | some k => exact absurd ent_zer (lead_some e).2.1
theorem zer_of {x : Vc p} {n : Nat} (hl : x.length = n) (h : ∀ i, ent x i = 0) : x = zer p n := vext (by simp [hl]) fun i => by rw [h, ent_zer]
/-- the lead's place -/
def ld (x : Vc p) : Nat := (lead x).getD 0
theorem ld_of {x : Vc p} {l : Nat} (h : lead x = some l) : ld x = l := by unfold ld; rw [h]; rfl
def redBy (B : List (Vc p)) (x : Vc p) : Vc p := B.foldl (fun x b => add x b (-(ent x (ld b)))) x
/-- each row has 1 at its lead, the others have 0 there -/
structure Ech (n : Nat) (B : List (Vc p)) : Prop where
  len : Rs n B
  led : ∀ b ∈ B, ∃ l, lead b = some l ∧ ent b l = 1
  red : ∀ b ∈ B, ∀ c ∈ B, b ≠ c → ent c (ld b) = 0
  nd : B.Nodup
variable {n : Nat} {B C L R : List (Vc p)} {x y v b c : Vc p}
theorem Ech.nil : Ech n ([] : List (Vc p)) := ⟨fun _ h => by simp at h, fun _ h => by simp at h, fun _ h => by simp at h, List.nodup_nil⟩
theorem Ech.one (E : Ech n B) (h : b ∈ B) : ent b (ld b) = 1 := by
  obtain ⟨l, h1, h2⟩ := E.led b h
  rw [ld_of h1, h2]
theorem Ech.lt (E : Ech n B) (h : b ∈ B) : ld b < n := by
  obtain ⟨l, h1, h2⟩ := E.led b h
  rw [ld_of h1, ← E.len b h]
  exact (lead_some h1).1
theorem Ech.inj (E : Ech n B) (h : b ∈ B) (k : c ∈ B) (e : ld b = ld c) : b = c := by
  by_cases q : b = c
  · exact q
  · have h1 := E.red b h c k q
    rw [e, E.one k] at h1
    exact absurd h1 one_ne
theorem Ech.lead (E : Ech n B) (h : b ∈ B) : lead b = some (ld b) := by
  obtain ⟨l, h1, h2⟩ := E.led b h
  rw [ld_of h1, h1]
theorem Ech.before (E : Ech n B) (h : b ∈ B) {j : Nat} (hj : j < ld b) : ent b j = 0 := (lead_some (E.lead h)).2.2 j hj
theorem redBy_nil : redBy [] x = x := rfl
theorem redBy_cons : redBy (b :: B) x = redBy B (add x b (-(ent x (ld b)))) := rfl
theorem redBy_len (hB : Rs n B) (hx : x.length = n) : (redBy B x).length = n := by
  induction B generalizing x with
  | nil => exact hx
  | cons b B ih => exact ih (fun r hr => hB r (List.mem_cons_of_mem _ hr)) (add_len' hx (hB b (List.mem_cons_self ..)))
theorem Rs.tail (h : Rs n (b :: B)) : Rs n B := fun r hr => h r (List.mem_cons_of_mem _ hr)
theorem Rs.head (h : Rs n (b :: B)) : b.length = n := h b (List.mem_cons_self ..)
/-- what is taken away is in the span -/
theorem redBy_sp (hB : Rs n B) (hx : x.length = n) : ∃ s, Sp n B s ∧ redBy B x = add x s 1 := by
  induction B generalizing x with
  | nil => exact ⟨zer p n, .zer, by rw [redBy_nil, add_zero_ hx]⟩
  | cons b B ih =>
    obtain ⟨s, h1, h2⟩ := ih hB.tail (x := add x b (-(ent x (ld b)))) (add_len' hx hB.head)
    have hs : s.length = n := h1.len hB.tail
    have h1' : Sp n (b :: B) s := h1.mono fun r hr => List.mem_cons_of_mem _ hr
    refine ⟨add s b (-(ent x (ld b))), .add _ h1' (List.mem_cons_self ..), ?_⟩
    rw [redBy_cons, h2]
    apply vext
    · simp [hx, hs, hB.head]
    · intro i
      rw [ent_add (add_len' hx hB.head) hs, ent_add hx hB.head, ent_add hx (add_len' hs hB.head), ent_add hs hB.head]
      grind
theorem redBy_add (hB : Rs n B) (hx : x.length = n) (hy : y.length = n) (f : Fin p) : redBy B (add x y f) = add (redBy B x) (redBy B y) f := by
  induction B generalizing x y with
  | nil => rfl
  | cons b B ih =>
    rw [redBy_cons, redBy_cons, redBy_cons, ← ih hB.tail (add_len' hx hB.head) (add_len' hy hB.head)]
    congr 1
    apply vext (by simp [hx, hy, hB.head])
    intro i
    rw [ent_add (add_len' hx hy) hB.head, ent_add hx hy, ent_add hx hy, ent_add (add_len' hx hB.head) (add_len' hy hB.head), ent_add hx hB.head, ent_add hy hB.head]
    grind
theorem redBy_zer (hB : Rs n B) : redBy B (zer p n) = zer p n := by
  induction B with
  | nil => rfl
  | cons b B ih =>
    rw [redBy_cons, ent_zer, zer_add hB.head]
    have : scl b (-0) = zer p n := by
      apply zer_of (by simp [hB.head])
      intro i
      rw [ent_scl]
      grind
    rw [this, ih hB.tail]
/-- nought at all leads: nothing is done -/
theorem redBy_id (hB : Rs n B) (hx : x.length = n) (h : ∀ b ∈ B, ent x (ld b) = 0) : redBy B x = x := by
  induction B with
  | nil => rfl
  | cons b B ih =>
    rw [redBy_cons, h b (List.mem_cons_self ..), show (-(0 : Fin p)) = 0 by grind, add_f0 hx hB.head]
    exact ih hB.tail fun c hc => h c (List.mem_cons_of_mem _ hc)
/-- entries at the leads vanish -/
theorem redBy_lead_aux (E : Ech n B) : ∀ (L : List (Vc p)) (x : Vc p), (∀ b ∈ L, b ∈ B) → x.length = n → ∀ b ∈ B, (b ∈ L ∨ ent x (ld b) = 0) → ent (redBy L x) (ld b) = 0
  | [], x, hL, hx, b, hb, h => by
    rcases h with h | h
    · simp at h
    · exact h
  | c :: L, x, hL, hx, b, hb, h => by
    have hc := hL c (List.mem_cons_self ..)
    rw [redBy_cons]
    refine redBy_lead_aux E L _ (fun d hd => hL d (List.mem_cons_of_mem _ hd)) (add_len' hx (E.len c hc)) b hb ?_
    by_cases e : b = c
    · right
      rw [ent_add hx (E.len c hc), e, E.one hc]
      grind
    · rcases h with h | h
      · left
        rcases List.mem_cons.mp h with h | h
        · exact absurd h e
        · exact h
      · right
        rw [ent_add hx (E.len c hc), h, E.red b hb c hc e]
        grind
theorem redBy_lead (E : Ech n B) (hx : x.length = n) (hb : b ∈ B) : ent (redBy B x) (ld b) = 0 := redBy_lead_aux E B x (fun _ h => h) hx b hb (.inl hb)
theorem redBy_mem_aux (E : Ech n B) (hb : b ∈ B) : ∀ L : List (Vc p), (∀ c ∈ L, c ∈ B) → b ∈ L → redBy L b = zer p n
  | [], _, h => by simp at h
  | c :: L, hL, h => by
    have hc := hL c (List.mem_cons_self ..)
    rw [redBy_cons]
    by_cases e : b = c
    · subst e
      rw [E.one hb, add_self_neg (E.len b hb)]
      exact redBy_zer fun r hr => E.len r (hL r (List.mem_cons_of_mem _ hr))
    · rw [E.red c hc b hb (fun q => e q.symm), show (-(0 : Fin p)) = 0 by grind, add_f0 (E.len b hb) (E.len c hc)]
      refine redBy_mem_aux E hb L (fun d hd => hL d (List.mem_cons_of_mem _ hd)) ?_
      rcases List.mem_cons.mp h with h | h
      · exact absurd h e
      · exact h
theorem redBy_span (E : Ech n B) (h : Sp n B x) : redBy B x = zer p n := by
  induction h with
  | zer => exact redBy_zer E.len
  | add f hx m ih => rw [redBy_add E.len (hx.len E.len) (E.len _ m), ih, redBy_mem_aux E m B (fun _ z => z) m, zer_add zer_len]; exact zer_of (by simp) fun i => by rw [ent_scl, ent_zer]; grind
/-- in the span, nought at all leads: nought -/
theorem Ech.zero (E : Ech n B) (h : Sp n B x) (z : ∀ b ∈ B, ent x (ld b) = 0) : x = zer p n := by
  rw [← redBy_span E h, redBy_id E.len (h.len E.len) z]
theorem Ech.sp_iff (E : Ech n B) (hx : x.length = n) : Sp n B x ↔ redBy B x = zer p n := by
  refine ⟨redBy_span E, fun h => ?_⟩
  obtain ⟨s, h1, h2⟩ := redBy_sp E.len hx
  have hs := h1.len E.len
  have e : x = scl s (-1) := by
    apply vext (by simp [hx, hs])
    intro i
    have q := ent_add (f := 1) (i := i) hx hs
    rw [← h2, h, ent_zer] at q
    rw [ent_scl]
    grind
  rw [e]
  exact h1.scl E.len _
theorem Ech.eq_of (E : Ech n B) (hx : Sp n B x) (hy : Sp n B y) (h : ∀ b ∈ B, ent x (ld b) = ent y (ld b)) : x = y := by
  refine sub_eq (hx.len E.len) (hy.len E.len) (E.zero (hx.plus E.len _ hy) fun b hb => ?_)
  rw [ent_add (hx.len E.len) (hy.len E.len), h b hb]
  grind
/-! ### leads of the span -/
theorem redBy_keep {l : Nat} : ∀ (L : List (Vc p)) (x : Vc p), Rs n L → x.length = n → (∀ j, j < l → ent x j = 0) → (∀ c ∈ L, ld c ≠ l ∧ ∀ j, j < ld c → ent c j = 0) → ent (redBy L x) l = ent x l
  | [], x, hL, hx, z, h => rfl
  | c :: L, x, hL, hx, z, h => by
    have hc := hL.head
    obtain ⟨h1, h2⟩ := h c (List.mem_cons_self ..)
    rw [redBy_cons]
    by_cases q : ld c < l
    · rw [z _ q, show (-(0 : Fin p)) = 0 by grind, add_f0 hx hc]
      exact redBy_keep L x hL.tail hx z fun d hd => h d (List.mem_cons_of_mem _ hd)
    · have q2 : l < ld c := by omega
      rw [redBy_keep L _ hL.tail (add_len' hx hc) (fun j hj => ?_) fun d hd => h d (List.mem_cons_of_mem _ hd), ent_add hx hc, h2 l q2]
      · grind
      · rw [ent_add hx hc, z j hj, h2 j (by omega)]
        grind
theorem Ech.lead_mem (E : Ech n B) (h : Sp n B v) {l : Nat} (hl : LA.lead v = some l) : ∃ b ∈ B, ld b = l := by
  by_cases q : ∃ b ∈ B, ld b = l
  · exact q
  · exfalso
    obtain ⟨h1, h2, h3⟩ := lead_some hl
    have e := redBy_keep (l := l) B v E.len (h.len E.len) h3 fun c hc => ⟨fun z => q ⟨c, hc, z⟩, fun j hj => E.before hc hj⟩
    rw [redBy_span E h, ent_zer] at e
    exact h2 e.symm
/-- the same span: the same rows -/
theorem Ech.uniq (E : Ech n B) (F : Ech n C) (h : ∀ v, Sp n B v → Sp n C v) (h' : ∀ v, Sp n C v → Sp n B v) (hb : b ∈ B) : b ∈ C := by
  obtain ⟨c, hc, e⟩ := F.lead_mem (h b (Sp.mem E.len hb)) (E.lead hb)
  have : b = c := by
    refine E.eq_of (Sp.mem E.len hb) (h' c (Sp.mem F.len hc)) fun d hd => ?_
    by_cases q : d = b
    · subst q
      rw [E.one hb, ← e, F.one hc]
    · rw [E.red d hd b hb q]
      obtain ⟨c', hc', e'⟩ := F.lead_mem (h d (Sp.mem E.len hd)) (E.lead hd)
      rw [← e', F.red c' hc' c hc]
      intro z
      subst z
      exact q (E.inj hd hb (by rw [← e', ← e]))
  rw [this]
  exact hc
end
end LA

set_option Elab.async false
set_option linter.all false
/-! LA3: the reduction of rows, its order, the one staircase. -/
namespace LA
section
variable {p : Nat} [hp : Pr p]
variable {n : Nat} {B C L R Q : List (Vc p)} {x y v b c : Vc p}
/-- one more row -/
def step (B : List (Vc p)) (x : Vc p) : List (Vc p) := match lead (redBy B x) with
  | none => B
  | some l => B.map (fun b => add b (scl (redBy B x) (inv (ent (redBy B x) l))) (-(ent b l))) ++ [scl (redBy B x) (inv (ent (redBy B x) l))]
def red0 (R : List (Vc p)) : List (Vc p) := R.foldl step []
theorem Rs.app (h : Rs n R) (k : Rs n Q) : Rs n (R ++ Q) := fun r hr => (List.mem_append.mp hr).elim (h r) (k r)
theorem Rs.cons (h : b.length = n) (k : Rs n Q) : Rs n (b :: Q) := fun r hr => (List.mem_cons.mp hr).elim (fun e => e ▸ h) (k r)
theorem Rs.nil : Rs n ([] : List (Vc p)) := fun r hr => by simp at hr
structure Eqs (n : Nat) (B C : List (Vc p)) : Prop where
  to : ∀ v, Sp n B v → Sp n C v
  fr : ∀ v, Sp n C v → Sp n B v
theorem Eqs.refl : Eqs n B B := ⟨fun _ h => h, fun _ h => h⟩
theorem Eqs.symm (h : Eqs n B C) : Eqs n C B := ⟨h.fr, h.to⟩
theorem Eqs.trans (h : Eqs n B C) (k : Eqs n C L) : Eqs n B L := ⟨fun v z => k.to v (h.to v z), fun v z => h.fr v (k.fr v z)⟩
theorem Eqs.of (hB : Rs n B) (hC : Rs n C) (h : ∀ b ∈ B, Sp n C b) (k : ∀ c ∈ C, Sp n B c) : Eqs n B C := ⟨fun v z => z.sub hB hC h, fun v z => z.sub hC hB k⟩
theorem Eqs.app (hB : Rs n B) (hC : Rs n C) (hL : Rs n L) (h : Eqs n B C) : Eqs n (B ++ L) (C ++ L) := by
  refine Eqs.of (hB.app hL) (hC.app hL) (fun b hb => ?_) fun c hc => ?_
  · rcases List.mem_append.mp hb with z | z
    · exact (h.to _ (Sp.mem hB z)).mono fun r hr => List.mem_append_left _ hr
    · exact Sp.mem (hC.app hL) (List.mem_append_right _ z)
  · rcases List.mem_append.mp hc with z | z
    · exact (h.fr _ (Sp.mem hC z)).mono fun r hr => List.mem_append_left _ hr
    · exact Sp.mem (hB.app hL) (List.mem_append_right _ z)
theorem step_ok (E : Ech n B) (hx : x.length = n) : Ech n (step B x) ∧ Eqs n (step B x) (B ++ [x]) := by
  have hR := redBy_len E.len hx
  obtain ⟨s, hs, es⟩ := redBy_sp E.len hx
  have hsl := hs.len E.len
  have hBx : Rs n (B ++ [x]) := E.len.app (Rs.cons hx Rs.nil)
  have sB : ∀ v, Sp n B v → Sp n (B ++ [x]) v := fun v h => h.mono fun r hr => List.mem_append_left _ hr
  have mx : Sp n (B ++ [x]) x := Sp.mem hBx (by simp)
  unfold step
  cases e : lead (redBy B x) with
  | none =>
    refine ⟨E, Eqs.of E.len hBx (fun b hb => sB _ (Sp.mem E.len hb)) fun c hc => ?_⟩
    rcases List.mem_append.mp hc with z | z
    · exact Sp.mem E.len z
    · rw [List.mem_singleton.mp z]
      exact (E.sp_iff hx).mpr (zer_of hR (lead_none e))
  | some l =>
    obtain ⟨l1, l2, l3⟩ := lead_some e
    dsimp only
    generalize hz : scl (redBy B x) (inv (ent (redBy B x) l)) = z
    have zl : z.length = n := by rw [← hz]; simpa using hR
    have z1 : ent z l = 1 := by rw [← hz, ent_scl]; exact inv_mul l2
    have z0 : ∀ j, j < l → ent z j = 0 := fun j hj => by rw [← hz, ent_scl, l3 j hj]; grind
    have zb : ∀ b ∈ B, ent z (ld b) = 0 := fun b hb => by rw [← hz, ent_scl, redBy_lead E hx hb]; grind
    have lz : lead z = some l := lead_of (by rw [z1]; exact one_ne) z0
    have lne : ∀ b ∈ B, ld b ≠ l := fun b hb q => by
      have := zb b hb
      rw [q, z1] at this
      exact one_ne this
    -- the new rows
    have nl : ∀ b ∈ B, (add b z (-(ent b l))).length = n := fun b hb => add_len' (E.len b hb) zl
    have ne : ∀ b ∈ B, ∀ j, ent (add b z (-(ent b l))) j = ent b j + -(ent b l) * ent z j := fun b hb j => ent_add (E.len b hb) zl
    have nlead : ∀ b ∈ B, lead (add b z (-(ent b l))) = some (ld b) := fun b hb => by
      refine lead_of ?_ fun j hj => ?_
      · rw [ne b hb, zb b hb, E.one hb]
        have := one_ne (p := p)
        grind
      · rw [ne b hb, E.before hb hj]
        by_cases q : l < ld b
        · by_cases q2 : j < l
          · rw [z0 j q2]; grind
          · rw [E.before hb q]; grind
        · have q1 := lne b hb
          rw [z0 j (by omega)]; grind
    have nl1 : ∀ b ∈ B, ent (add b z (-(ent b l))) l = 0 := fun b hb => by rw [ne b hb, z1]; grind
    have nlb : ∀ b ∈ B, ∀ c ∈ B, ent (add b z (-(ent b l))) (ld c) = ent b (ld c) := fun b hb c hc => by rw [ne b hb, zb c hc]; grind
    have mem : ∀ w, w ∈ B.map (fun b => add b z (-(ent b l))) ++ [z] → (∃ b ∈ B, w = add b z (-(ent b l))) ∨ w = z := fun w hw => by
      rcases List.mem_append.mp hw with h | h
      · obtain ⟨b, h1, h2⟩ := List.mem_map.mp h
        exact .inl ⟨b, h1, h2.symm⟩
      · exact .inr (List.mem_singleton.mp h)
    have hN : Rs n (B.map (fun b => add b z (-(ent b l))) ++ [z]) := fun w hw => by
      rcases mem w hw with ⟨b, hb, rfl⟩ | rfl
      · exact nl b hb
      · exact zl
    refine ⟨⟨hN, fun w hw => ?_, fun w hw u hu hne => ?_, ?_⟩, Eqs.of hN hBx (fun w hw => ?_) fun w hw => ?_⟩
    · rcases mem w hw with ⟨b, hb, rfl⟩ | rfl
      · exact ⟨ld b, nlead b hb, by rw [nlb b hb b hb, E.one hb]⟩
      · exact ⟨l, lz, z1⟩
    · rcases mem w hw with ⟨b, hb, rfl⟩ | rfl
      · rw [ld_of (nlead b hb)]
        rcases mem u hu with ⟨c, hc, rfl⟩ | rfl
        · rw [nlb c hc b hb]
          exact E.red b hb c hc fun q => hne (by rw [q])
        · exact zb b hb
      · rw [ld_of lz]
        rcases mem u hu with ⟨c, hc, rfl⟩ | rfl
        · exact nl1 c hc
        · exact absurd rfl hne
    · rw [List.nodup_append]
      refine ⟨?_, by simp, fun w hw u hu q => ?_⟩
      · refine List.pairwise_map.mpr (E.nd.imp_of_mem fun {a b} ha hb hab q => hab ?_)
        refine E.inj ha hb ?_
        have h1 := nlead a ha
        rw [q, nlead b hb] at h1
        exact (Option.some.inj h1).symm
      · rw [List.mem_singleton.mp hu] at q
        obtain ⟨b, hb, e2⟩ := List.mem_map.mp hw
        have h1 := nlead b hb
        rw [e2, q, lz] at h1
        exact lne b hb (Option.some.inj h1).symm
    · have zS : Sp n (B ++ [x]) z := by
        rw [← hz, es]
        exact (mx.plus hBx 1 (sB s hs)).scl hBx _
      rcases mem w hw with ⟨b, hb, rfl⟩ | rfl
      · exact (sB b (Sp.mem E.len hb)).plus hBx _ zS
      · exact zS
    · have zN : Sp n (B.map (fun b => add b z (-(ent b l))) ++ [z]) z := Sp.mem hN (by simp)
      have bN : ∀ b ∈ B, Sp n (B.map (fun b => add b z (-(ent b l))) ++ [z]) b := fun b hb => by
        have h1 : Sp n (B.map (fun b => add b z (-(ent b l))) ++ [z]) (add b z (-(ent b l))) := Sp.mem hN (List.mem_append_left _ (List.mem_map.mpr ⟨b, hb, rfl⟩))
        have h2 := h1.plus hN (ent b l) zN
        rw [add_add (E.len b hb) zl, show -(ent b l) + ent b l = 0 by grind, add_f0 (E.len b hb) zl] at h2
        exact h2
      rcases List.mem_append.mp hw with h | h
      · exact bN w h
      · rw [List.mem_singleton.mp h]
        have h3 : Sp n (B.map (fun b => add b z (-(ent b l))) ++ [z]) (redBy B x) := by
          have := zN.scl hN (ent (redBy B x) l)
          rw [← hz, scl_scl, mul_inv l2, scl_one, hz] at this
          exact this
        have h4 : Sp n (B.map (fun b => add b z (-(ent b l))) ++ [z]) s := hs.sub E.len hN bN
        have h5 := h3.plus hN (-1) h4
        rw [es, add_add hx hsl, show (1 : Fin p) + -1 = 0 by grind, add_f0 hx hsl] at h5
        exact h5
theorem fold_ok : ∀ (R B : List (Vc p)), Ech n B → Rs n R → Ech n (R.foldl step B) ∧ Eqs n (R.foldl step B) (B ++ R)
  | [], B, E, _ => ⟨E, by rw [List.append_nil]; exact Eqs.refl⟩
  | r :: R, B, E, hR => by
    obtain ⟨h1, h2⟩ := step_ok E hR.head
    obtain ⟨h3, h4⟩ := fold_ok R (step B r) h1 hR.tail
    refine ⟨h3, h4.trans ?_⟩
    have := h2.app h1.len (E.len.app (Rs.cons hR.head Rs.nil)) hR.tail
    rw [List.append_assoc] at this
    exact this
theorem red0_ok (hR : Rs n R) : Ech n (red0 R) ∧ Eqs n (red0 R) R := by
  have := fold_ok R [] Ech.nil hR
  exact this
/-! ### the order of rows -/
def lxv : Vc p → Vc p → Bool
  | [], [] => false
  | [], _ :: _ => true
  | _ :: _, [] => false
  | x :: xs, y :: ys => if x = y then lxv xs ys else decide (x < y)
theorem lxv_irr : ∀ x : Vc p, lxv x x = false
  | [] => rfl
  | x :: xs => by unfold lxv; rw [if_pos rfl]; exact lxv_irr xs
theorem lxv_asym : ∀ x y : Vc p, lxv x y = true → lxv y x = false
  | [], [], h => rfl
  | [], _ :: _, h => rfl
  | _ :: _, [], h => by cases h
  | x :: xs, y :: ys, h => by
    unfold lxv at h ⊢
    by_cases q : x = y
    · subst q
      rw [if_pos rfl] at h ⊢
      exact lxv_asym xs ys h
    · rw [if_neg q] at h
      rw [if_neg fun z => q z.symm]
      simp only [decide_eq_true_eq, decide_eq_false_iff_not] at h ⊢
      omega
theorem lxv_tri : ∀ x y : Vc p, lxv x y = false → lxv y x = false → x = y
  | [], [], _, _ => rfl
  | [], _ :: _, h, _ => by cases h
  | _ :: _, [], _, h => by cases h
  | x :: xs, y :: ys, h, k => by
    unfold lxv at h k
    by_cases q : x = y
    · subst q
      rw [if_pos rfl] at h k
      rw [lxv_tri xs ys h k]
    · rw [if_neg q] at h
      rw [if_neg fun z => q z.symm] at k
      simp only [decide_eq_false_iff_not] at h k
      omega
theorem lxv_trans : ∀ x y z : Vc p, lxv x y = true → lxv y z = true → lxv x z = true
  | [], [], _, h, _ => by cases h
  | [], _ :: _, [], _, k => by cases k
  | [], _ :: _, _ :: _, _, _ => rfl
  | _ :: _, [], _, h, _ => by cases h
  | _ :: _, _ :: _, [], _, k => by cases k
  | x :: xs, y :: ys, z :: zs, h, k => by
    unfold lxv at h k ⊢
    by_cases q : x = y
    · subst q
      rw [if_pos rfl] at h
      by_cases r : x = z
      · subst r
        rw [if_pos rfl] at k ⊢
        exact lxv_trans xs ys zs h k
      · rw [if_neg r] at k ⊢
        exact k
    · rw [if_neg q] at h
      by_cases r : y = z
      · subst r
        rw [if_neg q]
        exact h
      · rw [if_neg r] at k
        simp only [decide_eq_true_eq] at h k
        rw [if_neg (by omega)]
        simp only [decide_eq_true_eq]
        omega
/-- descending -/
def dle (x y : Vc p) : Bool := !lxv x y
def ale (x y : Vc p) : Bool := !lxv y x
theorem dle_total (x y : Vc p) : (dle x y || dle y x) = true := by
  unfold dle
  cases h : lxv x y with
  | false => rfl
  | true => rw [lxv_asym _ _ h]; rfl
theorem dle_trans (x y z : Vc p) (h : dle x y = true) (k : dle y z = true) : dle x z = true := by
  unfold dle at *
  cases q : lxv x z with
  | false => rfl
  | true =>
    cases h1 : lxv y z with
    | true => rw [h1] at k; cases k
    | false =>
      cases h2 : lxv z y with
      | true => rw [lxv_trans _ _ _ q h2] at h; cases h
      | false =>
        have e := lxv_tri _ _ h1 h2
        subst e
        rw [q] at h
        cases h
theorem ale_total (x y : Vc p) : (ale x y || ale y x) = true := dle_total y x
theorem ale_trans (x y z : Vc p) (h : ale x y = true) (k : ale y z = true) : ale x z = true := dle_trans z y x k h
def dsort (R : List (Vc p)) : List (Vc p) := R.mergeSort dle
def asort (R : List (Vc p)) : List (Vc p) := R.mergeSort ale
def stairs (R : List (Vc p)) : List (Vc p) := dsort (red0 R)
structure Stair (n : Nat) (B : List (Vc p)) : Prop extends Ech n B where
  ord : B.Pairwise fun x y => ld x < ld y
theorem lxv_of {i : Nat} : ∀ {x y : Vc p}, x.length = y.length → i < x.length → (∀ j, j < i → ent x j = ent y j) → ent x i < ent y i → lxv x y = true := by
  induction i with
  | zero =>
    intro x y hl hi hj h
    match x, y, hl, hi with
    | a :: xs, b :: ys, hl, hi =>
      have h' : a < b := h
      unfold lxv
      rw [if_neg (by omega)]
      simpa using h'
  | succ i ih =>
    intro x y hl hi hj h
    match x, y, hl, hi with
    | a :: xs, b :: ys, hl, hi =>
      have e : a = b := hj 0 (by omega)
      unfold lxv
      rw [if_pos e]
      refine ih (by simpa using hl) (by simpa using hi) (fun j hj' => ?_) h
      exact hj (j + 1) (by omega)
theorem fin_pos {a : Fin p} (h : a ≠ 0) : (0 : Fin p) < a := by
  have : a.val ≠ 0 := fun z => h (Fin.ext z)
  exact Fin.lt_def.mpr (by simp; omega)
theorem Ech.sort (E : Ech n B) : Stair n (dsort B) := by
  have P : (dsort B).Perm B := List.mergeSort_perm _ _
  have E' : Ech n (dsort B) := ⟨fun r hr => E.len r (P.mem_iff.mp hr), fun r hr => E.led r (P.mem_iff.mp hr), fun b hb c hc => E.red b (P.mem_iff.mp hb) c (P.mem_iff.mp hc), P.nodup_iff.mpr E.nd⟩
  refine ⟨E', ?_⟩
  have S := List.pairwise_mergeSort (le := dle (p := p)) dle_trans dle_total B
  refine (S.and E'.nd).imp_of_mem fun {a b} ha hb h => ?_
  obtain ⟨h1, h2⟩ := h
  have hne : ld a ≠ ld b := fun q => h2 (E'.inj ha hb q)
  by_cases q : ld a < ld b
  · exact q
  · have q2 : ld b < ld a := by omega
    have : lxv a b = true := by
      refine lxv_of (i := ld b) (by rw [E'.len a ha, E'.len b hb]) (by rw [E'.len a ha]; exact E'.lt hb) (fun j hj => ?_) ?_
      · rw [E'.before hb hj, E'.before ha (by omega)]
      · rw [E'.before ha q2, E'.one hb]
        exact fin_pos one_ne
    unfold dle at h1
    rw [this] at h1
    cases h1
theorem Eqs.perm (h : B.Perm C) : Eqs n B C := ⟨fun v z => z.mono fun r hr => h.mem_iff.mp hr, fun v z => z.mono fun r hr => h.mem_iff.mpr hr⟩
theorem stairs_ok (hR : Rs n R) : Stair n (stairs R) ∧ Eqs n (stairs R) R := by
  obtain ⟨h1, h2⟩ := red0_ok hR
  exact ⟨h1.sort, (Eqs.perm (List.mergeSort_perm _ _)).trans h2⟩
/-- lists in rising order of a key, of the same things -/
theorem key_eq {α : Type} {k : α → Nat} : ∀ {l m : List α}, l.Pairwise (fun x y => k x < k y) → m.Pairwise (fun x y => k x < k y) → (∀ x, x ∈ l ↔ x ∈ m) → l = m
  | [], [], _, _, _ => rfl
  | [], b :: m, _, _, h => by have := (h b).mpr (List.mem_cons_self ..); simp at this
  | a :: l, [], _, _, h => by have := (h a).mp (List.mem_cons_self ..); simp at this
  | a :: l, b :: m, hl, hm, h => by
    obtain ⟨l1, l2⟩ := List.pairwise_cons.mp hl
    obtain ⟨m1, m2⟩ := List.pairwise_cons.mp hm
    have e : a = b := by
      rcases List.mem_cons.mp ((h a).mp (List.mem_cons_self ..)) with q | q
      · exact q
      · rcases List.mem_cons.mp ((h b).mpr (List.mem_cons_self ..)) with q' | q'
        · exact q'.symm
        · have := l1 b q'
          have := m1 a q
          omega
    subst e
    rw [key_eq l2 m2 fun x => ?_]
    constructor
    · intro hx
      rcases List.mem_cons.mp ((h x).mp (List.mem_cons_of_mem _ hx)) with q | q
      · subst q
        have := l1 x hx
        omega
      · exact q
    · intro hx
      rcases List.mem_cons.mp ((h x).mpr (List.mem_cons_of_mem _ hx)) with q | q
      · subst q
        have := m1 x hx
        omega
      · exact q
theorem Stair.uniq (E : Stair n B) (F : Stair n C) (h : Eqs n B C) : B = C := key_eq E.ord F.ord fun x => ⟨fun hx => E.toEch.uniq F.toEch h.to h.fr hx, fun hx => F.toEch.uniq E.toEch h.fr h.to hx⟩
theorem stairs_eq (hR : Rs n R) (E : Stair n B) (h : Eqs n B R) : stairs R = B := (stairs_ok hR).1.uniq E ((stairs_ok hR).2.trans h.symm)
/-! ### sizes -/
theorem Ech.lds (E : Ech n B) : (B.map ld).Nodup := List.pairwise_map.mpr (E.nd.imp_of_mem fun {a b} ha hb hab q => hab (E.inj ha hb q))
theorem nodup_le {l m : List Nat} (h : l.Nodup) (hs : ∀ x ∈ l, x ∈ m) : l.length ≤ m.length := h.length_le_of_subset hs
end
end LA

set_option Elab.async false
set_option linter.all false
/-! LA4: tables that can be undone. -/
namespace LA
section
variable {p : Nat} [hp : Pr p]
variable {n : Nat} {B C T R Q : List (Vc p)} {x y v b c : Vc p}
def un (p : Nat) [Pr p] (n i : Nat) : Vc p := (List.range n).map fun j => if j = i then 1 else 0
@[simp] theorem un_len {i : Nat} : (un p n i).length = n := by simp [un]
theorem ent_un {i j : Nat} (h : j < n) : ent (un p n i) j = if j = i then 1 else 0 := by
  rw [ent_at (by simpa using h)]
  simp [un]
theorem ent_un1 {i : Nat} (h : i < n) : ent (un p n i) i = 1 := by rw [ent_un h, if_pos rfl]
theorem ent_un0 {i j : Nat} (h : j ≠ i) : ent (un p n i) j = 0 := by
  by_cases q : j < n
  · rw [ent_un q, if_neg h]
  · exact ent_out (by simp; omega)
theorem lead_un {i : Nat} (h : i < n) : lead (un p n i) = some i := lead_of (by rw [ent_un1 h]; exact one_ne) fun j hj => ent_un0 (by omega)
def idt (p : Nat) [Pr p] (n : Nat) : List (Vc p) := (List.range n).map (un p n)
theorem idt_rs : Rs n (idt p n) := fun r hr => by
  obtain ⟨i, _, rfl⟩ := List.mem_map.mp hr
  simp
structure Full (n : Nat) (T : List (Vc p)) : Prop where
  sz : T.length = n
  rs : Rs n T
  all : ∀ v : Vc p, v.length = n → Sp n T v
theorem full_idt : Full n (idt p n) := by
  refine ⟨by simp [idt], idt_rs, fun v hv => ?_⟩
  have key : ∀ k, k ≤ n → ∃ s, Sp n (idt p n) s ∧ ∀ j, ent s j = if j < k then ent v j else 0 := by
    intro k
    induction k with
    | zero => exact fun _ => ⟨zer p n, .zer, fun j => by simp⟩
    | succ k ih =>
      intro hk
      obtain ⟨s, h1, h2⟩ := ih (by omega)
      have hs := h1.len idt_rs
      refine ⟨add s (un p n k) (ent v k), .add _ h1 (List.mem_map.mpr ⟨k, List.mem_range.mpr (by omega), rfl⟩), fun j => ?_⟩
      rw [ent_add hs un_len, h2]
      by_cases q : j = k
      · subst q
        rw [if_neg (by omega), if_pos (by omega), ent_un1 (by omega)]
        grind
      · rw [ent_un0 q]
        by_cases q2 : j < k
        · rw [if_pos q2, if_pos (by omega)]
          grind
        · rw [if_neg q2, if_neg (by omega)]
          grind
  obtain ⟨s, h1, h2⟩ := key n (Nat.le_refl _)
  have e : v = s := by
    apply vext (by rw [hv, h1.len idt_rs])
    intro j
    rw [h2]
    split
    · rfl
    · exact ent_out (by omega)
  rw [e]
  exact h1
theorem Full.of (h : Full n T) (hs : Q.length = n) (hQ : Rs n Q) (k : ∀ r ∈ T, Sp n Q r) : Full n Q := ⟨hs, hQ, fun v hv => (h.all v hv).sub h.rs hQ k⟩
theorem Full.setadd (h : Full n T) {i j : Nat} (hi : i < T.length) (hj : j < T.length) (ne : i ≠ j) (f : Fin p) : Full n (T.set i (add T[i] T[j] f)) := by
  have l1 := h.rs _ (List.getElem_mem hi)
  have l2 := h.rs _ (List.getElem_mem hj)
  have hQ : Rs n (T.set i (add T[i] T[j] f)) := fun r hr => by
    rcases List.mem_or_eq_of_mem_set hr with q | q
    · exact h.rs r q
    · rw [q]; exact add_len' l1 l2
  have m1 : add T[i] T[j] f ∈ T.set i (add T[i] T[j] f) := List.mem_set hi _
  have mk : ∀ k (hk : k < T.length), k ≠ i → T[k] ∈ T.set i (add T[i] T[j] f) := fun k hk q => by
    refine List.mem_iff_getElem.mpr ⟨k, by simpa using hk, ?_⟩
    rw [List.getElem_set_ne (by omega)]
  refine h.of (by simpa using h.sz) hQ fun r hr => ?_
  obtain ⟨k, hk, rfl⟩ := List.mem_iff_getElem.mp hr
  by_cases q : k = i
  · subst q
    have s1 := Sp.mem hQ m1
    have s2 := Sp.mem hQ (mk j hj (by omega))
    have s3 := s1.plus hQ (-f) s2
    rw [add_add l1 l2, show f + -f = 0 by grind, add_f0 l1 l2] at s3
    exact s3
  · exact Sp.mem hQ (mk k hk q)
theorem Full.swap (h : Full n T) {i j : Nat} (hi : i < T.length) (hj : j < T.length) : Full n ((T.set i T[j]).set j T[i]) := by
  have hQ : Rs n ((T.set i T[j]).set j T[i]) := fun r hr => by
    rcases List.mem_or_eq_of_mem_set hr with q | q
    · rcases List.mem_or_eq_of_mem_set q with q | q
      · exact h.rs r q
      · rw [q]; exact h.rs _ (List.getElem_mem hj)
    · rw [q]; exact h.rs _ (List.getElem_mem hi)
  refine h.of (by simpa using h.sz) hQ fun r hr => Sp.mem hQ ?_
  obtain ⟨k, hk, rfl⟩ := List.mem_iff_getElem.mp hr
  by_cases q : k = i
  · subst q
    exact List.mem_set (by simpa using hj) _
  · by_cases q2 : k = j
    · subst q2
      refine List.mem_iff_getElem.mpr ⟨i, by simpa using hi, ?_⟩
      rw [List.getElem_set_ne (by omega), List.getElem_set_self]
    · refine List.mem_iff_getElem.mpr ⟨k, by simpa using hk, ?_⟩
      rw [List.getElem_set_ne (by omega), List.getElem_set_ne (by omega)]
theorem lds_le (E : Ech n B) : B.length ≤ n := by
  have := nodup_le (m := List.range n) E.lds fun l hl => by
    obtain ⟨b, hb, e⟩ := List.mem_map.mp hl
    rw [← e]
    exact List.mem_range.mpr (E.lt hb)
  simpa using this
/-- the rows are at least as many as the leads of the span -/
theorem lds_ge (E : Ech n B) {l : List Nat} (hn : l.Nodup) (h : ∀ i ∈ l, ∃ v, Sp n B v ∧ lead v = some i) : l.length ≤ B.length := by
  have := nodup_le (l := l) (m := B.map ld) hn fun i hi => by
    obtain ⟨v, h1, h2⟩ := h i hi
    obtain ⟨b, hb, e⟩ := E.lead_mem h1 h2
    exact List.mem_map.mpr ⟨b, hb, e⟩
  simpa using this
theorem Full.rank (h : Full n T) : (stairs T).length = n := by
  obtain ⟨S, e⟩ := stairs_ok h.rs
  have h1 := lds_le S.toEch
  have h2 := lds_ge S.toEch (List.nodup_range (n := n)) fun i hi => ⟨un p n i, e.fr _ (h.all _ un_len), lead_un (List.mem_range.mp hi)⟩
  rw [List.length_range] at h2
  omega
/-- as many rows as numbers: all -/
theorem full_of_rank (hT : Rs n T) (hs : T.length = n) (h : (stairs T).length = n) : Full n T := by
  obtain ⟨S, e⟩ := stairs_ok hT
  refine ⟨hs, hT, fun v hv => e.to _ ((S.toEch.sp_iff hv).mpr ?_)⟩
  refine zer_of (redBy_len S.len hv) fun i => ?_
  by_cases q : i < n
  · -- i is a lead
    have : i ∈ (stairs T).map ld := by
      have sub : (stairs T).map ld ⊆ List.range n := fun l hl => by
        obtain ⟨b, hb, e⟩ := List.mem_map.mp hl
        rw [← e]
        exact List.mem_range.mpr (S.toEch.lt hb)
      by_cases z : i ∈ (stairs T).map ld
      · exact z
      · have := nodup_le (l := i :: (stairs T).map ld) (m := List.range n) (List.nodup_cons.mpr ⟨z, S.toEch.lds⟩) fun l hl => by
          rcases List.mem_cons.mp hl with rfl | hl
          · exact List.mem_range.mpr q
          · exact sub hl
        simp [h] at this
        omega
    obtain ⟨b, hb, e⟩ := List.mem_map.mp this
    rw [← e]
    exact redBy_lead S.toEch hv hb
  · exact ent_out (by rw [redBy_len S.len hv]; omega)
end
end LA

set_option Elab.async false
set_option linter.all false
/-! LA5: all sums gone through; noughts. -/
namespace LA
section
variable {p : Nat} [hp : Pr p] {n : Nat} {R Q B : List (Vc p)} {x y v : Vc p}
/-- all rows of n numbers -/
def vecs (p : Nat) : Nat → List (Vc p)
  | 0 => [[]]
  | n + 1 => (vecs p n).flatMap fun x => (List.finRange p).map fun a => x ++ [a]
theorem vecs_len : ∀ n, (vecs p n).length = p ^ n
  | 0 => rfl
  | n + 1 => by
    unfold vecs
    rw [List.length_flatMap]
    have : ((vecs p n).map fun x => ((List.finRange p).map fun a => x ++ [a]).length) = (vecs p n).map fun _ => p := by
      apply List.map_congr_left
      intro x _
      simp
    rw [this, List.map_const', List.sum_replicate_nat, vecs_len n, Nat.pow_succ]
theorem vecs_mem : ∀ {n : Nat} {x : Vc p}, x ∈ vecs p n ↔ x.length = n
  | 0, x => by
    unfold vecs
    rw [List.mem_singleton, List.length_eq_zero_iff]
  | n + 1, x => by
    unfold vecs
    rw [List.mem_flatMap]
    constructor
    · rintro ⟨y, hy, hx⟩
      obtain ⟨a, _, rfl⟩ := List.mem_map.mp hx
      rw [List.length_append, vecs_mem.mp hy]
      rfl
    · intro h
      have ne : x ≠ [] := by intro z; rw [z] at h; cases h
      refine ⟨x.dropLast, vecs_mem.mpr (by rw [List.length_dropLast, h]; rfl), List.mem_map.mpr ⟨x.getLast ne, List.mem_finRange _, List.dropLast_concat_getLast ne⟩⟩
theorem nodup_flatMap {α β : Type} {f : α → List β} : ∀ {l : List α}, l.Nodup → (∀ a ∈ l, (f a).Nodup) → (∀ a ∈ l, ∀ b ∈ l, ∀ z, z ∈ f a → z ∈ f b → a = b) → (l.flatMap f).Nodup
  | [], _, _, _ => by simp
  | a :: l, h, k, u => by
    rw [List.flatMap_cons, List.nodup_append]
    obtain ⟨h1, h2⟩ := List.nodup_cons.mp h
    refine ⟨k a (List.mem_cons_self ..), nodup_flatMap h2 (fun b hb => k b (List.mem_cons_of_mem _ hb)) fun b hb c hc z h1 h2 => u b (List.mem_cons_of_mem _ hb) c (List.mem_cons_of_mem _ hc) z h1 h2, fun z hz w hw e => ?_⟩
    subst e
    obtain ⟨b, hb, hz2⟩ := List.mem_flatMap.mp hw
    have := u a (List.mem_cons_self ..) b (List.mem_cons_of_mem _ hb) z hz hz2
    exact h1 (this ▸ hb)
theorem nodup_map_ {α β : Type} {f : α → β} {l : List α} (h : l.Nodup) (k : ∀ a ∈ l, ∀ b ∈ l, f a = f b → a = b) : (l.map f).Nodup :=
  List.pairwise_map.mpr (List.Pairwise.imp_of_mem (fun {a b} ha hb hab e => hab (k a ha b hb e)) h)
theorem vecs_nodup : ∀ n, (vecs p n).Nodup
  | 0 => by simp [vecs]
  | n + 1 => by
    unfold vecs
    refine nodup_flatMap (vecs_nodup n) (fun x _ => nodup_map_ (List.nodup_finRange p) fun a _ b _ e => by simpa using e) fun x _ y _ z hx hy => ?_
    obtain ⟨a, _, rfl⟩ := List.mem_map.mp hx
    obtain ⟨b, _, e⟩ := List.mem_map.mp hy
    have := List.append_inj' e rfl
    exact this.1.symm
/-! ### the span, gone through -/
def grow (F : List (Vc p)) (r : Vc p) : List (Vc p) := if r ∈ F then F else (List.finRange p).flatMap fun f => F.map fun x => add x r f
def spn (n : Nat) (R : List (Vc p)) : List (Vc p) := R.foldl grow [zer p n]
/-- F is the span of R, each once -/
structure All (n : Nat) (R F : List (Vc p)) : Prop where
  nd : F.Nodup
  mem : ∀ x, x ∈ F ↔ Sp n R x
theorem All.eqs {F : List (Vc p)} (h : All n R F) (e : Eqs n R Q) : All n Q F := ⟨h.nd, fun x => (h.mem x).trans ⟨e.to x, e.fr x⟩⟩
theorem sp_nil {x : Vc p} : Sp n ([] : List (Vc p)) x ↔ x = zer p n := by
  constructor
  · intro h
    cases h with
    | zer => rfl
    | add f h r => exact absurd r (by simp)
  · rintro rfl
    exact .zer
theorem sp_snoc (hR : Rs n R) (hy : y.length = n) : Sp n (R ++ [y]) x ↔ ∃ u f, Sp n R u ∧ x = add u y f := by
  have hQ : Rs n (R ++ [y]) := hR.app (Rs.cons hy Rs.nil)
  constructor
  · intro h
    induction h with
    | zer => exact ⟨zer p n, 0, .zer, (add_f0 zer_len hy).symm⟩
    | @add z r g h m ih =>
      obtain ⟨u, f, h1, rfl⟩ := ih
      have lu := h1.len hR
      rcases List.mem_append.mp m with m | m
      · have lr := hR _ m
        exact ⟨add u r g, f, .add g h1 m, by rw [add_assoc_ lu hy lr]⟩
      · obtain rfl := List.mem_singleton.mp m
        exact ⟨u, f + g, h1, add_add lu hy⟩
  · rintro ⟨u, f, h1, rfl⟩
    exact .add f (h1.mono fun r hr => List.mem_append_left _ hr) (List.mem_append_right _ (List.mem_singleton.mpr rfl))
theorem sp_back (hR : Rs n R) (hy : y.length = n) {u w : Vc p} (hu : Sp n R u) (hw : Sp n R w) {f g : Fin p} (ne : f ≠ g) (e : add u y f = add w y g) : Sp n R y := by
  have lu := hu.len hR
  have lw := hw.len hR
  have d : f - g ≠ 0 := by grind
  have k : y = scl (add w u (-1)) (inv (f - g)) := by
    apply vext (by simp [lu, lw, hy])
    intro i
    have ei := congrArg (fun z => ent z i) e
    simp only [ent_add lu hy, ent_add lw hy] at ei
    rw [ent_scl, ent_add lw lu]
    have h := inv_mul d
    have : ent w i + -1 * ent u i = (f - g) * ent y i := by grind
    rw [this]
    grind
  rw [k]
  exact (hw.plus hR _ hu).scl hR _
theorem grow_all {F : List (Vc p)} (hR : Rs n R) (hy : y.length = n) (h : All n R F) : All n (R ++ [y]) (grow F y) := by
  unfold grow
  split
  · rename_i m
    have hm := (h.mem y).mp m
    refine ⟨h.nd, fun x => (h.mem x).trans ⟨fun z => z.mono fun r hr => List.mem_append_left _ hr, fun z => z.sub (hR.app (Rs.cons hy Rs.nil)) hR fun r hr => ?_⟩⟩
    rcases List.mem_append.mp hr with m | m
    · exact Sp.mem hR m
    · rw [List.mem_singleton.mp m]; exact hm
  · rename_i m
    have hm : ¬ Sp n R y := fun z => m ((h.mem y).mpr z)
    refine ⟨nodup_flatMap (List.nodup_finRange p) (fun f _ => nodup_map_ h.nd fun u hu w hw e => ?_) fun f _ g _ z hf hg => ?_, fun x => ?_⟩
    · have lu := ((h.mem u).mp hu).len hR
      have lw := ((h.mem w).mp hw).len hR
      apply vext (lu.trans lw.symm)
      intro i
      have ei := congrArg (fun z => ent z i) e
      simp only [ent_add lu hy, ent_add lw hy] at ei
      grind
    · obtain ⟨u, hu, rfl⟩ := List.mem_map.mp hf
      obtain ⟨w, hw, e⟩ := List.mem_map.mp hg
      by_cases q : f = g
      · exact q
      · exact absurd (sp_back hR hy ((h.mem u).mp hu) ((h.mem w).mp hw) q e.symm) hm
    · rw [sp_snoc hR hy, List.mem_flatMap]
      constructor
      · rintro ⟨f, _, hx⟩
        obtain ⟨u, hu, rfl⟩ := List.mem_map.mp hx
        exact ⟨u, f, (h.mem u).mp hu, rfl⟩
      · rintro ⟨u, f, hu, rfl⟩
        exact ⟨f, List.mem_finRange _, List.mem_map.mpr ⟨u, (h.mem u).mpr hu, rfl⟩⟩
theorem red0_snoc : red0 (R ++ [y]) = step (red0 R) y := by unfold red0; rw [List.foldl_append]; rfl
theorem rank_in (hR : Rs n R) (hy : y.length = n) (h : Sp n R y) : (red0 (R ++ [y])).length = (red0 R).length := by
  obtain ⟨E, e⟩ := red0_ok hR
  rw [red0_snoc]
  unfold step
  rw [redBy_span E (e.fr y h), lead_zer]
theorem rank_out (hR : Rs n R) (hy : y.length = n) (h : ¬ Sp n R y) : (red0 (R ++ [y])).length = (red0 R).length + 1 := by
  obtain ⟨E, e⟩ := red0_ok hR
  rw [red0_snoc]
  unfold step
  cases q : lead (redBy (red0 R) y) with
  | none =>
    have z : redBy (red0 R) y = zer p n := zer_of (redBy_len E.len hy) (lead_none q)
    exact absurd (e.to y ((E.sp_iff hy).mpr z)) h
  | some l => simp
theorem all_len : ∀ (R Q F : List (Vc p)), Rs n Q → Rs n R → All n Q F → F.length = p ^ (red0 Q).length → All n (Q ++ R) (R.foldl grow F) ∧ (R.foldl grow F).length = p ^ (red0 (Q ++ R)).length
  | [], Q, F, hQ, _, h, e => by
    rw [List.append_nil]
    exact ⟨h, e⟩
  | y :: R, Q, F, hQ, hR, h, e => by
    have hy := hR.head
    have g := grow_all hQ hy h
    have := all_len R (Q ++ [y]) (grow F y) (hQ.app (Rs.cons hy Rs.nil)) hR.tail g (by
      by_cases m : y ∈ F
      · unfold grow
        rw [if_pos m, rank_in hQ hy ((h.mem y).mp m), e]
      · unfold grow
        rw [if_neg m, rank_out hQ hy fun z => m ((h.mem y).mpr z), List.length_flatMap]
        have k : ((List.finRange p).map fun f => (F.map fun x => add x y f).length) = (List.finRange p).map fun _ => F.length := by
          apply List.map_congr_left
          intro f _
          rw [List.length_map]
        rw [k, List.map_const', List.sum_replicate_nat, List.length_finRange, e, Nat.pow_succ, Nat.mul_comm])
    rw [List.append_assoc] at this
    exact this
theorem spn_all (hR : Rs n R) : All n R (spn n R) ∧ (spn n R).length = p ^ (stairs R).length := by
  have h := all_len R [] [zer p n] Rs.nil hR ⟨by simp, fun x => by rw [List.mem_singleton, sp_nil]⟩ (by simp [red0])
  rw [List.nil_append] at h
  have e : (stairs R).length = (red0 R).length := (List.mergeSort_perm _ _).length_eq
  rw [e]
  exact h
theorem All.length {F : List (Vc p)} (hR : Rs n R) (h : All n R F) : F.length = p ^ (stairs R).length := by
  obtain ⟨h1, h2⟩ := spn_all hR
  rw [← h2]
  exact ((List.perm_ext_iff_of_nodup h.nd h1.nd).mpr fun x => (h.mem x).trans (h1.mem x).symm).length_eq
theorem All.le {F : List (Vc p)} (hR : Rs n R) (h : All n R F) : F.length ≤ p ^ n := by
  rw [← vecs_len n]
  exact h.nd.length_le_of_subset fun x hx => vecs_mem.mpr (((h.mem x).mp hx).len hR)
end
end LA

set_option Elab.async false
set_option linter.all false
/-! LA6: the staircase out of a span; what all rows meet with 0. -/
namespace LA
section
variable {p : Nat} [hp : Pr p] {n : Nat} {R Q B S : List (Vc p)} {x y v : Vc p}
def one1 (x : Vc p) : Bool := match lead x with
  | some l => decide (ent x l = 1)
  | none => false
theorem one1_iff : one1 x = true ↔ ∃ l, lead x = some l ∧ ent x l = 1 := by
  unfold one1
  cases lead x with
  | none => simp
  | some l => simp
theorem filter_one {α : Type} [DecidableEq α] {P : α → Bool} {b : α} : ∀ {l : List α}, l.Nodup → b ∈ l → (∀ x ∈ l, P x = true ↔ x = b) → l.filter P = [b]
  | [], _, h, _ => by simp at h
  | a :: l, nd, h, k => by
    obtain ⟨h1, h2⟩ := List.nodup_cons.mp nd
    by_cases e : a = b
    · subst e
      rw [List.filter_cons_of_pos ((k a (List.mem_cons_self ..)).mpr rfl)]
      congr 1
      rw [List.filter_eq_nil_iff]
      intro x hx q
      exact h1 ((k x (List.mem_cons_of_mem _ hx)).mp q ▸ hx)
    · rw [List.filter_cons_of_neg (fun q => e ((k a (List.mem_cons_self ..)).mp q))]
      refine filter_one h2 ?_ fun x hx => k x (List.mem_cons_of_mem _ hx)
      rcases List.mem_cons.mp h with h | h
      · exact absurd h.symm e
      · exact h
/-- the rows of a span that have 1 at their lead -/
def ones (L : List (Vc p)) : List (Vc p) := L.filter one1
variable {L : List (Vc p)}
theorem ones_mem (E : Ech n S) (h : All n S L) : ∀ b ∈ S, b ∈ ones L := fun b hb => List.mem_filter.mpr ⟨(h.mem b).mpr (Sp.mem E.len hb), one1_iff.mpr ⟨_, E.lead hb, E.one hb⟩⟩
theorem ones_lead (E : Ech n S) (h : All n S L) (hx : x ∈ ones L) : lead x = some (ld x) ∧ ent x (ld x) = 1 ∧ x.length = n ∧ Sp n S x ∧ ∃ b ∈ S, ld b = ld x := by
  obtain ⟨h1, h2⟩ := List.mem_filter.mp hx
  obtain ⟨l, e1, e2⟩ := one1_iff.mp h2
  have e3 := ld_of e1
  subst e3
  have s := (h.mem x).mp h1
  exact ⟨e1, e2, s.len E.len, s, E.lead_mem s e1⟩
theorem ones_one (E : Ech n S) (h : All n S L) {b : Vc p} (hb : b ∈ S) : (ones L).filter (fun x => decide (ld x = ld b) && S.all fun c => decide (ld c = ld b) || decide (ent x (ld c) = 0)) = [b] := by
  refine filter_one (h.nd.filter _) (ones_mem E h b hb) fun x hx => ?_
  obtain ⟨h1, h2, h3, h4, h5⟩ := ones_lead E h hx
  rw [Bool.and_eq_true, decide_eq_true_iff, List.all_eq_true]
  constructor
  · rintro ⟨e, k⟩
    refine E.eq_of h4 (Sp.mem E.len hb) fun c hc => ?_
    have := k c hc
    rw [Bool.or_eq_true, decide_eq_true_iff, decide_eq_true_iff] at this
    by_cases q : c = b
    · subst q
      rw [E.one hc, ← e, h2]
    · have ne : ld c ≠ ld b := fun z => q (E.inj hc hb z)
      rcases this with z | z
      · exact absurd z ne
      · rw [z, E.red c hc b hb q]
  · rintro rfl
    refine ⟨rfl, fun c hc => ?_⟩
    rw [Bool.or_eq_true, decide_eq_true_iff, decide_eq_true_iff]
    by_cases q : c = x
    · exact .inl (by rw [q])
    · exact .inr (E.red c hc x hb q)
/-! ### what all rows meet with 0 -/
theorem ent_set {i k : Nat} {a : Fin p} (h : i < x.length) : ent (x.set i a) k = if i = k then a else ent x k := by
  unfold ent
  rw [List.getD_eq_getElem?_getD, List.getD_eq_getElem?_getD, List.getElem?_set]
  by_cases e : i = k
  · subst e
    rw [if_pos rfl, if_pos rfl, if_pos h]
    rfl
  · rw [if_neg e, if_neg e]
def colG (j : Nat) (S : List (Vc p)) (c : Vc p) : Vc p := S.foldl (fun c b => c.set (ld b) (-(ent b j))) c
def col (n : Nat) (S : List (Vc p)) (j : Nat) : Vc p := colG j S ((zer p n).set j 1)
theorem colG_len {j : Nat} : ∀ {S : List (Vc p)} {c : Vc p}, (colG j S c).length = c.length
  | [], c => rfl
  | b :: S, c => by
    show (colG j S (c.set (ld b) (-(ent b j)))).length = _
    rw [colG_len, List.length_set]
theorem col_len {j : Nat} : (col n S j).length = n := by
  unfold col
  rw [colG_len, List.length_set, zer_len]
theorem colG_no {j k : Nat} : ∀ {S : List (Vc p)} {c : Vc p}, c.length = n → (∀ b ∈ S, ld b < n) → (∀ b ∈ S, ld b ≠ k) → ent (colG j S c) k = ent c k
  | [], c, _, _, _ => rfl
  | b :: S, c, h, l, ne => by
    show ent (colG j S (c.set (ld b) (-(ent b j)))) k = _
    rw [colG_no (by rw [List.length_set, h]) (fun c hc => l c (List.mem_cons_of_mem _ hc)) fun c hc => ne c (List.mem_cons_of_mem _ hc), ent_set (by rw [h]; exact l b (List.mem_cons_self ..)), if_neg (ne b (List.mem_cons_self ..))]
theorem colG_at {j : Nat} : ∀ {S : List (Vc p)} {c : Vc p}, c.length = n → (∀ b ∈ S, ld b < n) → S.Pairwise (fun x y => ld x < ld y) → ∀ b ∈ S, ent (colG j S c) (ld b) = -(ent b j)
  | b :: S, c, h, l, o, d, hd => by
    obtain ⟨o1, o2⟩ := List.pairwise_cons.mp o
    show ent (colG j S (c.set (ld b) (-(ent b j)))) (ld d) = _
    have hl : (c.set (ld b) (-(ent b j))).length = n := by rw [List.length_set, h]
    have lS : ∀ c ∈ S, ld c < n := fun c hc => l c (List.mem_cons_of_mem _ hc)
    rcases List.mem_cons.mp hd with rfl | hd
    · rw [colG_no hl lS fun c hc => Nat.ne_of_gt (o1 c hc), ent_set (by rw [h]; exact l d (List.mem_cons_self ..)), if_pos rfl]
    · exact colG_at hl lS o2 d hd
def free (n : Nat) (S : List (Vc p)) : List Nat := (List.range n).filter fun j => decide (j ∉ S.map ld)
theorem free_iff {j : Nat} : j ∈ free n S ↔ j < n ∧ ∀ b ∈ S, ld b ≠ j := by
  unfold free
  rw [List.mem_filter, List.mem_range, decide_eq_true_iff, List.mem_map]
  constructor
  · rintro ⟨h1, h2⟩
    exact ⟨h1, fun b hb e => h2 ⟨b, hb, e⟩⟩
  · rintro ⟨h1, h2⟩
    exact ⟨h1, fun ⟨b, hb, e⟩ => h2 b hb e⟩
theorem col_lead (E : Stair n S) {j : Nat} {b : Vc p} (hb : b ∈ S) : ent (col n S j) (ld b) = -(ent b j) := colG_at (by simp) (fun b hb => E.lt hb) E.ord b hb
theorem col_free (E : Stair n S) {j k : Nat} (hj : j ∈ free n S) (hk : k ∈ free n S) : ent (col n S j) k = if k = j then 1 else 0 := by
  unfold col
  rw [colG_no (n := n) (by simp) (fun b hb => E.lt hb) (free_iff.mp hk).2, ent_set (by rw [zer_len]; exact (free_iff.mp hj).1), ent_zer]
  by_cases e : j = k
  · rw [if_pos e, if_pos e.symm]
  · rw [if_neg e, if_neg fun z => e z.symm]
theorem dot_free (E : Stair n S) {b u : Vc p} (hb : b ∈ S) (hu : u.length = n) (h : ∀ j ∈ free n S, ent u j = 0) : dot b u = ent u (ld b) := by
  rw [dot_sm (E.len b hb) hu, sm_one (k := ld b) (E.lt hb), E.one hb]
  · grind
  · intro i hi ne
    by_cases f : i ∈ free n S
    · rw [h i f]
      grind
    · have : ∃ c ∈ S, ld c = i := by
        by_cases q : ∃ c ∈ S, ld c = i
        · exact q
        · exact absurd (free_iff.mpr ⟨hi, fun c hc e => q ⟨c, hc, e⟩⟩) f
      obtain ⟨c, hc, e⟩ := this
      have nb : b ≠ c := fun z => ne (by rw [← e, z])
      rw [← e, E.red c hc b hb (fun z => nb z.symm)]
      grind
theorem dot_un {b : Vc p} {j : Nat} (hb : b.length = n) (hj : j < n) : dot b (un p n j) = ent b j := by
  rw [dot_sm hb un_len, sm_one (k := j) hj, ent_un1 hj]
  · grind
  · intro i hi ne
    rw [ent_un0 ne]
    grind
theorem dot_col (E : Stair n S) {b : Vc p} {j : Nat} (hb : b ∈ S) (hj : j ∈ free n S) : dot b (col n S j) = 0 := by
  have jn := (free_iff.mp hj).1
  have lb := E.len b hb
  have h1 := dot_add_r (f := -1) lb (col_len (n := n) (S := S) (j := j)) (un_len (p := p) (n := n) (i := j))
  have h2 := dot_free E hb (u := add (col n S j) (un p n j) (-1)) (add_len' col_len un_len) fun k hk => by
    rw [ent_add col_len un_len, col_free E hj hk]
    by_cases e : k = j
    · subst e
      rw [if_pos rfl, ent_un1 jn]
      grind
    · rw [if_neg e, ent_un0 e]
      grind
  rw [h1, ent_add col_len un_len, col_lead E hb, dot_un lb jn, ent_un0 (fun z => (free_iff.mp hj).2 b hb z)] at h2
  grind
def null (n : Nat) (S : List (Vc p)) : List (Vc p) := (free n S).map (col n S)
theorem null_rs : Rs n (null n S) := fun r hr => by
  obtain ⟨j, _, rfl⟩ := List.mem_map.mp hr
  exact col_len
theorem null_red (E : Stair n S) : ∀ (L : List Nat) (x : Vc p), (∀ j ∈ L, j ∈ free n S) → x.length = n → ∃ u s, u.length = n ∧ Sp n (null n S) s ∧ x = add u s 1 ∧ ∀ j ∈ free n S, (j ∈ L ∨ ent x j = 0) → ent u j = 0
  | [], x, _, hx => ⟨x, zer p n, hx, .zer, (add_zero_ hx).symm, fun j _ h => h.elim (fun z => by simp at z) fun z => z⟩
  | j :: L, x, hL, hx => by
    have hj := hL j (List.mem_cons_self ..)
    have cm : col n S j ∈ null n S := List.mem_map.mpr ⟨j, hj, rfl⟩
    obtain ⟨u, s, h1, h2, h3, h4⟩ := null_red E L (add x (col n S j) (-(ent x j))) (fun k hk => hL k (List.mem_cons_of_mem _ hk)) (add_len' hx col_len)
    have ls := h2.len null_rs
    refine ⟨u, add s (col n S j) (ent x j), h1, .add _ h2 cm, ?_, fun k hk h => h4 k hk ?_⟩
    · apply vext (by rw [hx, add_len' h1 (add_len' ls col_len)])
      intro i
      have ei := congrArg (fun z => ent z i) h3
      simp only [ent_add hx (col_len (S := S)), ent_add h1 ls] at ei
      rw [ent_add h1 (add_len' ls col_len), ent_add ls col_len]
      grind
    · by_cases e : k = j
      · subst e
        refine .inr ?_
        rw [ent_add hx col_len, col_free E hj hj, if_pos rfl]
        grind
      · rcases h with h | h
        · rcases List.mem_cons.mp h with h | h
          · exact absurd h e
          · exact .inl h
        · refine .inr ?_
          rw [ent_add hx col_len, col_free E hj hk, if_neg e, h]
          grind
theorem null_iff (E : Stair n S) : Sp n (null n S) v ↔ v.length = n ∧ ∀ b ∈ S, dot b v = 0 := by
  constructor
  · intro h
    refine ⟨h.len null_rs, fun b hb => h.dot0 null_rs (E.len b hb) fun r hr => ?_⟩
    obtain ⟨j, hj, rfl⟩ := List.mem_map.mp hr
    exact dot_col E hb hj
  · rintro ⟨hv, h⟩
    obtain ⟨u, s, h1, h2, h3, h4⟩ := null_red E (free n S) v (fun _ h => h) hv
    have ls := h2.len null_rs
    have f0 : ∀ j ∈ free n S, ent u j = 0 := fun j hj => h4 j hj (.inl hj)
    have l0 : ∀ b ∈ S, ent u (ld b) = 0 := fun b hb => by
      rw [← dot_free E hb h1 f0]
      have e := h b hb
      have ds : dot b s = 0 := h2.dot0 null_rs (E.len b hb) fun r hr => by
        obtain ⟨j, hj, rfl⟩ := List.mem_map.mp hr
        exact dot_col E hb hj
      rw [h3, dot_add_r (E.len b hb) h1 ls, ds] at e
      grind
    have u0 : u = zer p n := zer_of h1 fun i => by
      by_cases hi : i < n
      · by_cases f : i ∈ free n S
        · exact f0 i f
        · by_cases q : ∃ c ∈ S, ld c = i
          · obtain ⟨c, hc, e⟩ := q
            rw [← e]
            exact l0 c hc
          · exact absurd (free_iff.mpr ⟨hi, fun c hc e => q ⟨c, hc, e⟩⟩) f
      · exact ent_out (by omega)
    rw [h3, u0, zer_add ls, scl_one]
    exact h2
theorem null_rank (E : Stair n S) : ∀ (L Q : List Nat), (Q ++ L).Nodup → (∀ j ∈ Q ++ L, j ∈ free n S) → (red0 (Q.map (col n S))).length = Q.length → (red0 ((Q ++ L).map (col n S))).length = Q.length + L.length
  | [], Q, _, _, h => by simpa using h
  | j :: L, Q, nd, hf, h => by
    have e1 : Q ++ j :: L = (Q ++ [j]) ++ L := by simp
    have hj := hf j (by simp)
    have rs : Rs n (Q.map (col n S)) := fun r hr => by
      obtain ⟨k, _, rfl⟩ := List.mem_map.mp hr
      exact col_len
    rw [e1] at nd hf
    have := null_rank E L (Q ++ [j]) nd hf (by
      rw [List.map_append, List.map_singleton, rank_out rs col_len, h]
      · simp
      · intro z
        have := z.ent0 rs (i := j) fun r hr => by
          obtain ⟨k, hk, rfl⟩ := List.mem_map.mp hr
          rw [col_free E (hf k (by simp [hk])) hj, if_neg]
          rintro rfl
          rw [List.nodup_append, List.nodup_append] at nd
          exact nd.1.2.2 j hk j (by simp) rfl
        rw [col_free E hj hj, if_pos rfl] at this
        exact one_ne this)
    rw [e1, this]
    simp
    omega
theorem free_nd : (free n S).Nodup := List.nodup_range.filter _
theorem null_stairs (E : Stair n S) : (stairs (null n S)).length = (free n S).length := by
  have e : (stairs (null n S)).length = (red0 (null n S)).length := (List.mergeSort_perm _ _).length_eq
  rw [e]
  have := null_rank E (free n S) [] (by simpa using free_nd) (fun j h => by simpa using h) rfl
  unfold null
  simpa using this
theorem free_len (E : Stair n S) : S.length + (free n S).length = n := by
  have h := List.length_eq_countP_add_countP (fun j => decide (j ∈ S.map ld)) (l := List.range n)
  rw [List.length_range, List.countP_eq_length_filter, List.countP_eq_length_filter] at h
  have e1 : ((List.range n).filter fun j => decide (j ∈ S.map ld)).length = S.length := by
    rw [← List.length_map (f := ld) (as := S)]
    refine ((List.perm_ext_iff_of_nodup (List.nodup_range.filter _) E.lds).mpr fun j => ?_).length_eq
    rw [List.mem_filter, List.mem_range, decide_eq_true_iff]
    refine ⟨fun h => h.2, fun h => ⟨?_, h⟩⟩
    obtain ⟨b, hb, rfl⟩ := List.mem_map.mp h
    exact E.lt hb
  have e2 : ((List.range n).filter fun j => decide ¬(decide (j ∈ S.map ld) = true)).length = (free n S).length := by
    unfold free
    congr 2
    funext j
    by_cases q : j ∈ S.map ld <;> simp [q]
  rw [e1] at h
  rw [← e2]
  exact h.symm
/-- the rows of all that every row of R meets with 0 -/
theorem nul_all (hR : Rs n R) {N : List (Vc p)} (nd : N.Nodup) (mem : ∀ x, x ∈ N ↔ x.length = n ∧ ∀ r ∈ R, dot r x = 0) : All n (null n (stairs R)) N := by
  obtain ⟨E, e⟩ := stairs_ok hR
  refine ⟨nd, fun x => (mem x).trans ?_⟩
  rw [null_iff E]
  constructor
  · rintro ⟨hx, h⟩
    refine ⟨hx, fun b hb => ?_⟩
    rw [dot_comm (E.len b hb) hx]
    exact (e.to b (Sp.mem E.len hb)).dot0 hR hx fun r hr => by rw [dot_comm hx (hR r hr)]; exact h r hr
  · rintro ⟨hx, h⟩
    refine ⟨hx, fun r hr => ?_⟩
    rw [dot_comm (hR r hr) hx]
    exact (e.fr r (Sp.mem hR hr)).dot0 E.len hx fun b hb => by rw [dot_comm hx (E.len b hb)]; exact h b hb
theorem nul_size (hR : Rs n R) {L N : List (Vc p)} (hL : All n R L) (hN : All n (null n (stairs R)) N) : L.length * N.length = p ^ n := by
  obtain ⟨E, e⟩ := stairs_ok hR
  rw [hL.length hR, hN.length null_rs, null_stairs E, ← Nat.pow_add, free_len E]
end
end LA

set_option Elab.async false
set_option linter.all false
/-! LA7: what comes of rows by a move; sizes of spans; what two spans have in common. -/
namespace LA
section
variable {p : Nat} [hp : Pr p] {n : Nat} {R Q S : List (Vc p)} {x y v : Vc p} {M : Vc p → Vc p}
/-! ### sizes -/
theorem pow_lt' {b : Nat} (hb : 2 ≤ b) {i j : Nat} (h : b ^ i ≤ b ^ j) : i ≤ j := (Nat.pow_le_pow_iff_right (by omega)).mp h
theorem rank_le (hR : Rs n R) (hQ : Rs n Q) (h : ∀ x, Sp n R x → Sp n Q x) : (stairs R).length ≤ (stairs Q).length := by
  obtain ⟨h1, h2⟩ := spn_all hR
  obtain ⟨k1, k2⟩ := spn_all hQ
  have := h1.nd.length_le_of_subset fun x hx => (k1.mem x).mpr (h x ((h1.mem x).mp hx))
  rw [h2, k2] at this
  exact pow_lt' (pr_gt p) this
theorem rank_lt (hR : Rs n R) (hQ : Rs n Q) (h : ∀ x, Sp n R x → Sp n Q x) (hy : Sp n Q y) (hn : ¬ Sp n R y) : (stairs R).length < (stairs Q).length := by
  obtain ⟨h1, h2⟩ := spn_all hR
  obtain ⟨k1, k2⟩ := spn_all hQ
  have nd : (y :: spn n R).Nodup := List.nodup_cons.mpr ⟨fun z => hn ((h1.mem y).mp z), h1.nd⟩
  have := nd.length_le_of_subset (l₂ := spn n Q) fun x hx => by
    rcases List.mem_cons.mp hx with rfl | hx
    · exact (k1.mem _).mpr hy
    · exact (k1.mem x).mpr (h x ((h1.mem x).mp hx))
  rw [List.length_cons, h2, k2] at this
  rcases Nat.lt_or_ge (stairs R).length (stairs Q).length with q | q
  · exact q
  · have := Nat.pow_le_pow_right (n := p) (by have := pr_gt p; omega) q
    omega
theorem rank_n (hR : Rs n R) : (stairs R).length ≤ n := lds_le (stairs_ok hR).1.toEch
/-! ### moves -/
structure Lin (n : Nat) (M : Vc p → Vc p) : Prop where
  len : ∀ x, x.length = n → (M x).length = n
  zer : M (zer p n) = LA.zer p n
  add : ∀ x y f, x.length = n → y.length = n → M (LA.add x y f) = LA.add (M x) (M y) f
theorem Lin.rs (L : Lin n M) (hR : Rs n R) : Rs n (R.map M) := fun r hr => by
  obtain ⟨x, hx, rfl⟩ := List.mem_map.mp hr
  exact L.len x (hR x hx)
/-- a span that a move keeps -/
theorem Lin.keep (L : Lin n M) (hR : Rs n R) (hQ : Rs n Q) (h : ∀ r ∈ R, Sp n Q (M r)) (hx : Sp n R x) : Sp n Q (M x) := by
  induction hx with
  | zer => rw [L.zer]; exact .zer
  | @add u r f hu hr ih =>
    rw [L.add u r f (hu.len hR) (hR r hr)]
    exact ih.plus hQ f (h r hr)
def its (M : Vc p → Vc p) : Nat → Vc p → Vc p
  | 0, x => x
  | t + 1, x => M (its M t x)
theorem Lin.its (L : Lin n M) (hx : x.length = n) : ∀ t, (its M t x).length = n
  | 0 => hx
  | t + 1 => L.len _ (L.its hx t)
/-- rows and what comes of them in less than k steps -/
def orb (M : Vc p → Vc p) (k : Nat) (R : List (Vc p)) : List (Vc p) := R.flatMap fun r => (List.range k).map fun t => LA.its M t r
theorem orb_mem {k : Nat} : x ∈ orb M k R ↔ ∃ r ∈ R, ∃ t, t < k ∧ LA.its M t r = x := by
  unfold orb
  simp only [List.mem_flatMap, List.mem_map, List.mem_range]
theorem orb_rs (L : Lin n M) (hR : Rs n R) {k : Nat} : Rs n (orb M k R) := fun x hx => by
  obtain ⟨r, hr, t, _, rfl⟩ := orb_mem.mp hx
  exact L.its (hR r hr) t
theorem orb_up {k m : Nat} (h : k ≤ m) (hx : x ∈ orb M k R) : x ∈ orb M m R := by
  obtain ⟨r, hr, t, ht, rfl⟩ := orb_mem.mp hx
  exact orb_mem.mpr ⟨r, hr, t, by omega, rfl⟩
theorem orb_move {k : Nat} (hx : x ∈ orb M k R) : M x ∈ orb M (k + 1) R := by
  obtain ⟨r, hr, t, ht, rfl⟩ := orb_mem.mp hx
  exact orb_mem.mpr ⟨r, hr, t + 1, by omega, rfl⟩
/-- once nothing new comes, nothing comes any more -/
theorem orb_stop (L : Lin n M) (hR : Rs n R) {k : Nat} (h : ∀ x ∈ orb M (k + 1) R, Sp n (orb M k R) x) : ∀ m, ∀ x ∈ orb M m R, Sp n (orb M k R) x := by
  have mv : ∀ x, Sp n (orb M k R) x → Sp n (orb M k R) (M x) := fun x hx => L.keep (orb_rs L hR) (orb_rs L hR) (fun r hr => h _ (orb_move hr)) hx
  intro m x hx
  obtain ⟨r, hr, t, _, rfl⟩ := orb_mem.mp hx
  have : ∀ t, Sp n (orb M k R) (LA.its M t r) := by
    intro t
    induction t with
    | zero => exact h _ (orb_mem.mpr ⟨r, hr, 0, by omega, rfl⟩)
    | succ t ih => exact mv _ ih
  exact this t
theorem orb_stops (L : Lin n M) (hR : Rs n R) : ∃ k, k ≤ n ∧ ∀ x ∈ orb M (k + 1) R, Sp n (orb M k R) x := by
  by_cases q : ∃ k, k ≤ n ∧ ∀ x ∈ orb M (k + 1) R, Sp n (orb M k R) x
  · exact q
  · exfalso
    have up : ∀ k, k ≤ n + 1 → k ≤ (stairs (orb M k R)).length := by
      intro k
      induction k with
      | zero => exact fun _ => Nat.zero_le _
      | succ k ih =>
        intro hk
        have h1 := ih (by omega)
        have h2 : ¬ ∀ x ∈ orb M (k + 1) R, Sp n (orb M k R) x := fun z => q ⟨k, by omega, z⟩
        obtain ⟨y, hy⟩ := Classical.not_forall.mp h2
        obtain ⟨hy1, hy2⟩ := Classical.not_imp.mp hy
        have : (stairs (orb M k R)).length < (stairs (orb M (k + 1) R)).length := rank_lt (orb_rs L hR) (orb_rs L hR) (fun x hx => hx.mono fun r hr => orb_up (Nat.le_succ k) hr) (Sp.mem (orb_rs L hR) hy1) hy2
        omega
    have := up (n + 1) (Nat.le_refl _)
    have := rank_n (orb_rs L hR (k := n + 1))
    omega
/-- what comes in n steps is all -/
theorem orb_all (L : Lin n M) (hR : Rs n R) {m : Nat} (hm : n ≤ m) {k : Nat} : ∀ x ∈ orb M k R, Sp n (orb M m R) x := by
  obtain ⟨j, hj, h⟩ := orb_stops L hR
  intro x hx
  exact (orb_stop L hR h k x hx).mono fun r hr => orb_up (by omega) hr
theorem orb_keep (L : Lin n M) (hR : Rs n R) {m : Nat} (hm : n ≤ m) (hx : Sp n (orb M m R) x) : Sp n (orb M m R) (M x) :=
  L.keep (orb_rs L hR) (orb_rs L hR) (fun r hr => orb_all L hR hm _ (orb_move hr)) hx
theorem orb_in {m : Nat} (hm : 1 ≤ m) (hx : x ∈ R) : x ∈ orb M m R := orb_mem.mpr ⟨x, hx, 0, by omega, rfl⟩
/-- the stairs that grow -/
structure Grown (n : Nat) (M : Vc p → Vc p) (R B : List (Vc p)) : Prop where
  st : Stair n B
  fr : ∀ r ∈ R, Sp n B r
  to : ∀ b ∈ B, ∃ k, Sp n (orb M k R) b
theorem grown0 (hR : Rs n R) : Grown n M R (stairs R) := by
  obtain ⟨St, e⟩ := stairs_ok hR
  refine ⟨St, fun r hr => e.fr _ (Sp.mem hR hr), fun b hb => ⟨1, ?_⟩⟩
  exact (e.to b (Sp.mem St.len hb)).mono fun r hr => orb_in (by omega) hr
def next (M : Vc p → Vc p) (B : List (Vc p)) : List (Vc p) := stairs (B ++ B.map M)
theorem next_rs (L : Lin n M) (St : Stair n S) : Rs n (S ++ S.map M) := Rs.app St.len (L.rs St.len)
theorem Grown.next (L : Lin n M) (hR : Rs n R) (h : Grown n M R S) : Grown n M R (LA.next M S) := by
  have hQ := next_rs L h.st
  obtain ⟨St, e⟩ := stairs_ok hQ
  refine ⟨St, fun r hr => e.fr _ ((h.fr r hr).mono fun r hr => List.mem_append_left _ hr), fun b hb => ?_⟩
  have hb' := e.to b (Sp.mem St.len hb)
  have all : ∃ k, ∀ x ∈ S ++ S.map M, Sp n (orb M k R) x := by
    obtain ⟨j, hj, hs⟩ := orb_stops L hR
    refine ⟨j, fun x hx => ?_⟩
    have one : ∀ b ∈ S, Sp n (orb M j R) b := fun b hb => by
      obtain ⟨k, hk⟩ := h.to b hb
      exact hk.sub (orb_rs L hR) (orb_rs L hR) (orb_stop L hR hs k)
    rcases List.mem_append.mp hx with hx | hx
    · exact one x hx
    · obtain ⟨c, hc, rfl⟩ := List.mem_map.mp hx
      exact L.keep (orb_rs L hR) (orb_rs L hR) (fun r hr => hs _ (orb_move hr)) (one c hc)
  obtain ⟨k, hk⟩ := all
  exact ⟨k, hb'.sub hQ (orb_rs L hR) hk⟩
/-- it grows, or it stands -/
theorem next_lt (L : Lin n M) (St : Stair n S) (ne : LA.next M S ≠ S) : S.length < (LA.next M S).length := by
  have hQ := next_rs L St
  obtain ⟨St2, e⟩ := stairs_ok hQ
  have e0 : stairs S = S := stairs_eq St.len St Eqs.refl
  by_cases q : ∀ x ∈ S ++ S.map M, Sp n S x
  · exact absurd (St2.uniq St ⟨fun v hv => (e.to v hv).sub hQ St.len q, fun v hv => e.fr v (hv.mono fun r hr => List.mem_append_left _ hr)⟩) ne
  · obtain ⟨y, hy⟩ := Classical.not_forall.mp q
    obtain ⟨hy1, hy2⟩ := Classical.not_imp.mp hy
    have := rank_lt St.len hQ (fun x hx => hx.mono fun r hr => List.mem_append_left _ hr) (Sp.mem hQ hy1) hy2
    rw [e0] at this
    exact this
theorem Grown.end (L : Lin n M) (hR : Rs n R) (h : Grown n M R S) (e : LA.next M S = S) {m : Nat} (hm : n ≤ m) (h1 : 1 ≤ m) : Eqs n S (orb M m R) := by
  have hQ := next_rs L h.st
  obtain ⟨St2, e2⟩ := stairs_ok hQ
  have mv : ∀ b ∈ S, Sp n S (M b) := fun b hb => by
    have := e2.fr (M b) (Sp.mem hQ (List.mem_append_right _ (List.mem_map_of_mem hb)))
    rw [show stairs (S ++ S.map M) = S from e] at this
    exact this
  refine Eqs.of h.st.len (orb_rs L hR) (fun b hb => ?_) fun x hx => ?_
  · obtain ⟨k, hk⟩ := h.to b hb
    exact hk.sub (orb_rs L hR) (orb_rs L hR) (orb_all L hR hm)
  · obtain ⟨r, hr, t, _, rfl⟩ := orb_mem.mp hx
    have : ∀ t, Sp n S (LA.its M t r) := by
      intro t
      induction t with
      | zero => exact h.fr r hr
      | succ t ih => exact L.keep h.st.len h.st.len mv ih
    exact this t
/-! ### twice against -/
theorem null_null (E : Stair n S) (hx : x.length = n) (h : ∀ r ∈ null n S, dot r x = 0) : Sp n S x := by
  have hl := redBy_len E.len hx
  rw [E.toEch.sp_iff hx]
  apply zer_of hl
  obtain ⟨s, hs, es⟩ := redBy_sp E.len hx
  have sl := hs.len E.len
  have d0 : ∀ j ∈ free n S, dot (col n S j) (redBy S x) = 0 := fun j hj => by
    rw [es, dot_add_r col_len hx sl, h _ (List.mem_map_of_mem hj)]
    have : dot (col n S j) s = 0 := Sp.dot0 E.len col_len (fun b hb => by
      rw [dot_comm col_len (E.len b hb)]
      exact dot_col E hb hj) hs
    rw [this]
    grind
  intro i
  by_cases q : i < n
  · by_cases hb : ∃ b ∈ S, ld b = i
    · obtain ⟨b, hb, rfl⟩ := hb
      exact redBy_lead E.toEch hx hb
    · have hf : i ∈ free n S := free_iff.mpr ⟨q, fun b hb' e => hb ⟨b, hb', e⟩⟩
      have := d0 i hf
      rw [dot_sm col_len hl, sm_one (k := i) q] at this
      · rw [col_free E hf hf, if_pos rfl] at this
        grind
      · intro k hk ne
        by_cases hb : ∃ b ∈ S, ld b = k
        · obtain ⟨b, hb, rfl⟩ := hb
          rw [redBy_lead E.toEch hx hb]
          grind
        · have hk' : k ∈ free n S := free_iff.mpr ⟨hk, fun b hb' e => hb ⟨b, hb', e⟩⟩
          rw [col_free E hf hk', if_neg ne]
          grind
  · exact ent_out (by rw [hl]; omega)
/-- what meets all of a span's null with 0 is the span -/
theorem span_iff (hR : Rs n R) : Sp n R x ↔ x.length = n ∧ ∀ r ∈ stairs (null n (stairs R)), dot r x = 0 := by
  obtain ⟨E, e⟩ := stairs_ok hR
  obtain ⟨E2, e2⟩ := stairs_ok (null_rs (p := p) (n := n) (S := stairs R))
  constructor
  · intro hx
    have hl := hx.len hR
    refine ⟨hl, fun r hr => ?_⟩
    have hr' := e2.to r (Sp.mem E2.len hr)
    have := (null_iff E).mp hr'
    refine Sp.dot0 E.len this.1 (fun b hb => ?_) (e.fr x hx)
    rw [dot_comm this.1 (E.len b hb)]
    exact this.2 b hb
  · rintro ⟨hl, h⟩
    refine e.to x (null_null E hl fun r hr => ?_)
    have hr' := e2.fr r (Sp.mem null_rs hr)
    rw [dot_comm (null_rs r hr) hl]
    exact Sp.dot0 E2.len hl (fun b hb => by rw [dot_comm hl (E2.len b hb)]; exact h b hb) hr'
/-- what two spans have in common -/
theorem both_iff (hR : Rs n R) (hQ : Rs n Q) : Sp n (stairs (null n (stairs (stairs (null n (stairs R)) ++ stairs (null n (stairs Q)))))) x ↔ Sp n R x ∧ Sp n Q x := by
  obtain ⟨E1, _⟩ := stairs_ok (null_rs (p := p) (n := n) (S := stairs R))
  obtain ⟨E2, _⟩ := stairs_ok (null_rs (p := p) (n := n) (S := stairs Q))
  have hA : Rs n (stairs (null n (stairs R)) ++ stairs (null n (stairs Q))) := Rs.app E1.len E2.len
  obtain ⟨E3, e3⟩ := stairs_ok hA
  obtain ⟨E4, e4⟩ := stairs_ok (null_rs (p := p) (n := n) (S := stairs (stairs (null n (stairs R)) ++ stairs (null n (stairs Q)))))
  have h1 : Sp n (stairs (null n (stairs (stairs (null n (stairs R)) ++ stairs (null n (stairs Q)))))) x ↔ Sp n (null n (stairs (stairs (null n (stairs R)) ++ stairs (null n (stairs Q))))) x := ⟨e4.to x, e4.fr x⟩
  rw [h1, null_iff E3, span_iff hR, span_iff hQ]
  constructor
  · rintro ⟨hl, h⟩
    have k : ∀ r ∈ stairs (null n (stairs R)) ++ stairs (null n (stairs Q)), dot r x = 0 := fun r hr => by
      rw [dot_comm (hA r hr) hl]
      exact Sp.dot0 E3.len hl (fun b hb => by rw [dot_comm hl (E3.len b hb)]; exact h b hb) (e3.fr r (Sp.mem hA hr))
    exact ⟨⟨hl, fun r hr => k r (List.mem_append_left _ hr)⟩, hl, fun r hr => k r (List.mem_append_right _ hr)⟩
  · rintro ⟨⟨hl, h1⟩, _, h2⟩
    refine ⟨hl, fun b hb => ?_⟩
    rw [dot_comm (E3.len b hb) hl]
    refine Sp.dot0 hA hl (fun r hr => ?_) (e3.to b (Sp.mem E3.len hb))
    rw [dot_comm hl (hA r hr)]
    rcases List.mem_append.mp hr with hr | hr
    · exact h1 r hr
    · exact h2 r hr
/-! ### rows times a table -/
def bhd (x : Vc p) (T : List (Vc p)) (n : Nat) : Vc p := (List.range n).map fun j => sm T.length fun i => ent x i * ent (T.getD i []) j
theorem bhd_len {T : List (Vc p)} : (bhd x T n).length = n := by simp [bhd]
theorem ent_bhd {T : List (Vc p)} {j : Nat} (hj : j < n) : ent (bhd x T n) j = sm T.length fun i => ent x i * ent (T.getD i []) j := by
  rw [ent_at (by simp [bhd]; exact hj)]
  simp [bhd]
theorem dot_bhd {T : List (Vc p)} (hT : Rs n T) (hl : T.length = n) (hx : x.length = n) (hy : y.length = n) : dot (bhd x T n) y = dot x (tms T y) := by
  rw [dot_sm bhd_len hy, dot_sm hx (by rw [tms_len, hl])]
  have e1 : sm n (fun j => ent (bhd x T n) j * ent y j) = sm n fun j => sm n fun i => ent x i * ent (T.getD i []) j * ent y j := sm_congr fun j hj => by
    rw [ent_bhd hj, hl]
    have : ent y j * sm n (fun i => ent x i * ent (T.getD i []) j) = sm n fun i => ent y j * (ent x i * ent (T.getD i []) j) := sm_mul.symm
    rw [show sm n (fun i => ent x i * ent (T.getD i []) j) * ent y j = ent y j * sm n (fun i => ent x i * ent (T.getD i []) j) by grind, this]
    exact sm_congr fun i _ => by grind
  rw [e1, sm_swap]
  refine sm_congr fun i hi => ?_
  have hi' : i < T.length := by omega
  have gi : T.getD i [] = T[i] := by rw [List.getD_eq_getElem?_getD, List.getElem?_eq_getElem hi']; rfl
  have e2 : ent (tms T y) i = dot T[i] y := by
    rw [ent_at (by rw [tms_len]; exact hi')]
    simp [tms]
  rw [e2, dot_sm (hT _ (List.getElem_mem _)) hy, ← sm_mul, gi]
  exact sm_congr fun j _ => by grind
theorem lin_tms {T : List (Vc p)} (hT : Rs n T) (hl : T.length = n) : Lin n (tms T) where
  len := fun x hx => by rw [tms_len, hl]
  zer := by
    apply zer_of (by rw [tms_len, hl])
    intro i
    by_cases hi : i < T.length
    · rw [ent_at (by rw [tms_len]; exact hi)]
      simp [tms, dot_zer_r (hT _ (List.getElem_mem hi))]
    · exact ent_out (by rw [tms_len]; omega)
  add := fun x y f hx hy => by
    apply vext (by simp [hl])
    intro i
    by_cases hi : i < T.length
    · rw [ent_add (n := n) (by rw [tms_len, hl]) (by rw [tms_len, hl]), ent_at (by rw [tms_len]; exact hi), ent_at (by rw [tms_len]; exact hi), ent_at (by rw [tms_len]; exact hi)]
      simp [tms, dot_add_r (hT _ (List.getElem_mem hi)) hx hy]
    · rw [ent_out (by rw [tms_len]; omega), ent_out (by simp; omega)]
theorem lin_bhd {T : List (Vc p)} (hl : T.length = n) : Lin n (fun x => bhd x T n) where
  len := fun x hx => bhd_len
  zer := by
    apply zer_of bhd_len
    intro i
    by_cases hi : i < n
    · rw [ent_bhd hi]
      rw [← sm_zero (n := T.length)]
      exact sm_congr fun j _ => by rw [ent_zer]; grind
    · exact ent_out (by rw [bhd_len]; omega)
  add := fun x y f hx hy => by
    apply vext (by simp [bhd_len])
    intro i
    by_cases hi : i < n
    · rw [ent_add bhd_len bhd_len, ent_bhd hi, ent_bhd hi, ent_bhd hi, ← sm_mul, ← sm_add]
      exact sm_congr fun j _ => by rw [ent_add hx hy]; grind
    · rw [ent_out (by rw [bhd_len]; omega), ent_out (by simp [bhd_len]; omega)]
/-- a form moved t times meets as the form meets the moved -/
theorem dot_its {T : List (Vc p)} (hT : Rs n T) (hl : T.length = n) (hx : x.length = n) : ∀ (t : Nat) (y : Vc p), y.length = n → dot (its (fun x => bhd x T n) t x) y = dot x (its (tms T) t y)
  | 0, y, hy => rfl
  | t + 1, y, hy => by
    have h1 := (lin_bhd (p := p) hl).its hx t
    show dot (bhd (its (fun x => bhd x T n) t x) T n) y = _
    rw [dot_bhd hT hl h1 hy, dot_its hT hl hx t _ ((lin_tms hT hl).len y hy)]
    have : ∀ t, its (tms T) t (tms T y) = its (tms T) (t + 1) y := by
      intro t
      induction t with
      | zero => rfl
      | succ t ih => show tms T _ = tms T _; rw [ih]
    rw [this]
/-- few rows of a span begin with 1 -/
theorem ones_half (hp3 : 3 ≤ p) (hR : Rs n R) {L : List (Vc p)} (h : All n R L) : 2 * (ones L).length ≤ L.length := by
  have h2 : (2 : Fin p) ≠ 1 ∧ (2 : Fin p) ≠ 0 := by
    refine pr_elim (C := fun p hp => 3 ≤ p → (2 : Fin p) ≠ 1 ∧ (2 : Fin p) ≠ 0) hp ?_ ?_ ?_ ?_ hp3
    · omega
    · decide
    · decide
    · decide
  have one_of : ∀ x ∈ ones L, ∃ l, lead x = some l ∧ ent x l = 1 := fun x hx => one1_iff.mp (List.mem_filter.mp hx).2
  have nd : ((ones L) ++ (ones L).map fun x => scl x 2).Nodup := by
    refine List.nodup_append.mpr ⟨h.nd.filter _, nodup_map_ (h.nd.filter _) fun a ha b hb e => ?_, fun a ha b hb e => ?_⟩
    · have hi : inv (2 : Fin p) * 2 = 1 := inv_mul h2.2
      have := congrArg (fun z => scl z (inv 2)) e
      simpa [scl_scl, hi, scl_one] using this
    · obtain ⟨c, hc, rfl⟩ := List.mem_map.mp hb
      obtain ⟨l, l1, l2⟩ := one_of a ha
      obtain ⟨m, m1, m2⟩ := one_of c hc
      have e1 : lead (scl c 2) = some m := by
        refine lead_of ?_ fun j hj => ?_
        · rw [ent_scl, m2]
          have := h2.2
          grind
        · rw [ent_scl, (lead_some m1).2.2 j hj]
          grind
      rw [e, e1] at l1
      cases l1
      rw [e, ent_scl, m2] at l2
      exact h2.1 (by grind)
  have := nd.length_le_of_subset (l₂ := L) fun x hx => by
    rcases List.mem_append.mp hx with hx | hx
    · exact (List.mem_filter.mp hx).1
    · obtain ⟨c, hc, rfl⟩ := List.mem_map.mp hx
      exact (h.mem _).mpr (((h.mem c).mp (List.mem_filter.mp hc).1).scl hR 2)
  simp at this
  omega
end
end LA

set_option Elab.async false
set_option linter.all false
/-! LA8: the unit rows; what a machine reaches, hides, loses. -/
namespace LA
section
variable {p : Nat} [hp : Pr p] {n : Nat} {R Q S : List (Vc p)} {x y v : Vc p}
theorem ld_un {i : Nat} (h : i < n) : ld (un p n i) = i := ld_of (lead_un h)
theorem stair_idt : Stair n (idt p n) where
  len := idt_rs
  led := fun b hb => by
    obtain ⟨i, hi, rfl⟩ := List.mem_map.mp hb
    have hi := List.mem_range.mp hi
    exact ⟨i, lead_un hi, ent_un1 hi⟩
  red := fun b hb c hc ne => by
    obtain ⟨i, hi, rfl⟩ := List.mem_map.mp hb
    obtain ⟨j, hj, rfl⟩ := List.mem_map.mp hc
    have hi := List.mem_range.mp hi
    rw [ld_un hi]
    exact ent_un0 fun e => ne (by rw [e])
  nd := by
    refine nodup_map_ List.nodup_range fun i hi j hj e => ?_
    rw [← ld_un (p := p) (List.mem_range.mp hi), e, ld_un (List.mem_range.mp hj)]
  ord := by
    refine List.pairwise_map.mpr (List.Pairwise.imp_of_mem (fun {i j} hi hj h => ?_) List.pairwise_lt_range)
    rw [ld_un (List.mem_range.mp hi), ld_un (List.mem_range.mp hj)]
    exact h
theorem col_nil {j : Nat} (hj : j < n) : col n ([] : List (Vc p)) j = un p n j := by
  show (zer p n).set j 1 = un p n j
  apply vext (by simp)
  intro k
  rw [ent_set (by simpa using hj), ent_zer]
  by_cases e : j = k
  · subst e
    rw [if_pos rfl, ent_un1 hj]
  · rw [if_neg e, ent_un0 (fun z => e z.symm)]
theorem null_nil : null n ([] : List (Vc p)) = idt p n := by
  unfold null idt
  have : free n ([] : List (Vc p)) = List.range n := by
    unfold free
    rw [List.filter_eq_self]
    simp
  rw [this]
  exact List.map_congr_left fun j hj => col_nil (List.mem_range.mp hj)
theorem stairs_self (St : Stair n S) : stairs S = S := stairs_eq St.len St Eqs.refl
theorem stairs_nil : stairs ([] : List (Vc p)) = [] := stairs_self (n := 0) ⟨Ech.nil, by simp⟩
theorem stairs_null_nil : stairs (null n (stairs ([] : List (Vc p)))) = idt p n := by rw [stairs_nil, null_nil, stairs_self stair_idt]
theorem stairs_stairs (hR : Rs n R) : stairs (stairs R) = stairs R := stairs_self (stairs_ok hR).1
/-- what two staircases have in common -/
def bth (n : Nat) (R Q : List (Vc p)) : List (Vc p) := stairs (null n (stairs (stairs (null n (stairs R)) ++ stairs (null n (stairs Q)))))
theorem bth_stair : Stair n (bth n R Q) := (stairs_ok null_rs).1
theorem bth_mem (hR : Rs n R) (hQ : Rs n Q) : Sp n (bth n R Q) x ↔ Sp n R x ∧ Sp n Q x := both_iff hR hQ
/-- few rows of a span begin with 1 -/
theorem ones_few (hR : Rs n R) {L : List (Vc p)} (h : All n R L) (hn : n ≤ 5) (hL : p ^ n ≤ 125) : (ones L).length < 64 := by
  have h1 := h.le hR
  have h2 : (ones L).length ≤ L.length := List.length_filter_le _ _
  by_cases q : 3 ≤ p
  · have := ones_half q hR h
    omega
  · have p2 : p = 2 := by have := pr_gt p; omega
    have : p ^ n ≤ 2 ^ 5 := by rw [p2]; exact Nat.pow_le_pow_right (by omega) hn
    omega
end
end LA

set_option Elab.async false
set_option linter.all false
set_option maxRecDepth 100000
set_option maxHeartbeats 1000000
/-! DL1: data, their representation in the abstract heap, outcomes, states, judgements. -/
namespace DL
open PySem PySem.Spec L2
open PyProof.Rows hiding St

/-- data -/
inductive D where
  | non | bl (b : Bool) | int (i : Int) | str (x : Str) | tup (l : List D) | lst (l : List D) | fl (l : List D) | ref (a : Addr)

/-! ### representation -/
def KT (K : PySem.W.Frag) (a : Addr) (xs : List V) : Prop :=
  ∃ (o : Obj) (its : Array Value) (n : Nat), K.lookup a = some o ∧ o.cls = .type "tuple" ∧ o.data = .seq its n ∧ its.size ≤ sizeLine ∧ Vals xs its.toList
def KL (K : PySem.W.Frag) (a : Addr) (xs : List V) : Prop :=
  ∃ (o : Obj) (its : Array Value) (n : Nat), K.lookup a = some o ∧ o.cls = .type "list" ∧ o.dict = none ∧ o.data = .seq its n ∧ its.size ≤ sizeLine ∧ Vals xs its.toList
def TpAt (K : PySem.W.Frag) (F : Addr → Prop) (H : Hp) (a : Addr) (xs : List V) : Prop := (Rd H a (.tup xs) ∧ ¬ F a) ∨ KT K a xs
def LsAt (K : PySem.W.Frag) (F : Addr → Prop) (H : Hp) (a : Addr) (xs : List V) : Prop := (Rd H a (.lst xs) ∧ ¬ F a) ∨ KL K a xs

mutual
inductive Rep (K : PySem.W.Frag) (F : Addr → Prop) (H : Hp) : V → D → Prop
  | non : Rep K F H .non .non
  | bl (b : Bool) : Rep K F H (.bl b) (.bl b)
  | int (i : Int) : Rep K F H (.int i) (.int i)
  | str (x : Str) : Rep K F H (.str x) (.str x)
  | ref (a : Addr) : Rep K F H (.ref a) (.ref a)
  | tup {a : Addr} {xs : List V} {ds : List D} : TpAt K F H a xs → Reps K F H xs ds → Rep K F H (.ref a) (.tup ds)
  | lst {a : Addr} {xs : List V} {ds : List D} : H a = some (.lst xs) → ¬ F a → Reps K F H xs ds → Rep K F H (.ref a) (.lst ds)
  | fl {a : Addr} {xs : List V} {ds : List D} : LsAt K F H a xs → Reps K F H xs ds → Rep K F H (.ref a) (.fl ds)
inductive Reps (K : PySem.W.Frag) (F : Addr → Prop) (H : Hp) : List V → List D → Prop
  | nil : Reps K F H [] []
  | cons {v : V} {vs : List V} {d : D} {ds : List D} : Rep K F H v d → Reps K F H vs ds → Reps K F H (v :: vs) (d :: ds)
end

/-- what stood outside F stands as it stood, and stays outside -/
def Tr (F : Addr → Prop) (H : Hp) (F' : Addr → Prop) (H' : Hp) : Prop := ∀ a o, H a = some o → ¬ F a → H' a = some o ∧ ¬ F' a
theorem Tr.refl (F : Addr → Prop) (H : Hp) : Tr F H F H := fun _ _ e n => ⟨e, n⟩
theorem Tr.trans {F F1 F2 : Addr → Prop} {H H1 H2 : Hp} (a : Tr F H F1 H1) (b : Tr F1 H1 F2 H2) : Tr F H F2 H2 := fun x o e n =>
  let ⟨e1, n1⟩ := a x o e n
  b x o e1 n1

section
variable {K : PySem.W.Frag} {F F' : Addr → Prop} {H H' : Hp} {a : Addr} {xs : List V} {v : V} {d : D}
theorem Rd.tr {u : HO} (t : Tr F H F' H') (h : Rd H a u) (n : ¬ F a) : Rd H' a u ∧ ¬ F' a := by
  rcases h with h | ⟨o, h⟩
  · exact ⟨.inl (t a _ h n).1, (t a _ h n).2⟩
  · exact ⟨.inr ⟨o, (t a _ h n).1⟩, (t a _ h n).2⟩
theorem TpAt.tr (t : Tr F H F' H') (h : TpAt K F H a xs) : TpAt K F' H' a xs := by
  rcases h with ⟨h, n⟩ | h
  · exact .inl (Rd.tr t h n)
  · exact .inr h
theorem LsAt.tr (t : Tr F H F' H') (h : LsAt K F H a xs) : LsAt K F' H' a xs := by
  rcases h with ⟨h, n⟩ | h
  · exact .inl (Rd.tr t h n)
  · exact .inr h
theorem TpAt.sq (h : TpAt K F H a xs) : SqT K H a xs := by
  rcases h with ⟨h, n⟩ | h
  · exact .inl h
  · exact .inr h
theorem LsAt.sq (h : LsAt K F H a xs) : SqL K H a xs := by
  rcases h with ⟨h, n⟩ | h
  · exact .inl h
  · exact .inr h
theorem TpAt.mk (h : H a = some (.tup xs)) (n : ¬ F a) : TpAt K F H a xs := .inl ⟨.inl h, n⟩
theorem LsAt.mk (h : H a = some (.lst xs)) (n : ¬ F a) : LsAt K F H a xs := .inl ⟨.inl h, n⟩
mutual
theorem Rep.tr (t : Tr F H F' H') : ∀ (d : D) (v : V), Rep K F H v d → Rep K F' H' v d
  | .non, _, h => by cases h; exact .non
  | .bl b, _, h => by cases h; exact .bl b
  | .int i, _, h => by cases h; exact .int i
  | .str x, _, h => by cases h; exact .str x
  | .ref a, _, h => by cases h; exact .ref a
  | .tup ds, _, h => by
    cases h with
    | tup h1 h2 => exact .tup (h1.tr t) (Reps.tr t ds _ h2)
  | .lst ds, _, h => by
    cases h with
    | lst h1 h2 h3 => exact .lst (t _ _ h1 h2).1 (t _ _ h1 h2).2 (Reps.tr t ds _ h3)
  | .fl ds, _, h => by
    cases h with
    | fl h1 h2 => exact .fl (h1.tr t) (Reps.tr t ds _ h2)
theorem Reps.tr (t : Tr F H F' H') : ∀ (ds : List D) (vs : List V), Reps K F H vs ds → Reps K F' H' vs ds
  | [], _, h => by cases h; exact .nil
  | d :: ds, _, h => by
    cases h with
    | cons h1 h2 => exact .cons (Rep.tr t d _ h1) (Reps.tr t ds _ h2)
end
theorem Reps.length : ∀ {vs : List V} {ds : List D}, Reps K F H vs ds → vs.length = ds.length
  | _, _, .nil => rfl
  | _, _, .cons _ h => by rw [List.length_cons, List.length_cons, Reps.length h]
theorem Reps.get : ∀ {vs : List V} {ds : List D} {i : Nat} {d : D}, Reps K F H vs ds → ds[i]? = some d → ∃ v, vs[i]? = some v ∧ Rep K F H v d
  | _, _, _, _, .nil, e => by simp at e
  | _, _, 0, _, .cons r _, e => by simp at e; subst e; exact ⟨_, rfl, r⟩
  | _, _, i + 1, d, .cons _ t, e => by
    obtain ⟨u, h1, h2⟩ := Reps.get (i := i) (d := d) t (by simpa using e)
    exact ⟨u, by simpa using h1, h2⟩
theorem Reps.append : ∀ {vs ws : List V} {ds es : List D}, Reps K F H vs ds → Reps K F H ws es → Reps K F H (vs ++ ws) (ds ++ es)
  | _, _, _, _, .nil, s => s
  | _, _, _, _, .cons r t, s => .cons r (Reps.append t s)
theorem Reps.one (h : Rep K F H v d) : Reps K F H [v] [d] := .cons h .nil
theorem Reps.take : ∀ {vs : List V} {ds : List D} (n : Nat), Reps K F H vs ds → Reps K F H (vs.take n) (ds.take n)
  | _, _, 0, _ => .nil
  | _, _, _ + 1, .nil => .nil
  | _, _, n + 1, .cons r t => .cons r (Reps.take n t)
theorem Reps.drop : ∀ {vs : List V} {ds : List D} (n : Nat), Reps K F H vs ds → Reps K F H (vs.drop n) (ds.drop n)
  | _, _, 0, r => r
  | _, _, _ + 1, .nil => .nil
  | _, _, n + 1, .cons r t => Reps.drop n t
theorem Reps.set : ∀ {vs : List V} {ds : List D} (i : Nat), Reps K F H vs ds → Rep K F H v d → Reps K F H (vs.set i v) (ds.set i d)
  | _, _, _, .nil, _ => .nil
  | _, _, 0, .cons _ t, r => .cons r t
  | _, _, i + 1, .cons q t, r => .cons q (Reps.set i t r)
theorem Reps.dropLast {vs : List V} {ds : List D} (h : Reps K F H vs ds) : Reps K F H vs.dropLast ds.dropLast := by
  rw [List.dropLast_eq_take, List.dropLast_eq_take, h.length]
  exact h.take _
theorem Reps.ints : ∀ {ns : List Int} {vs : List V}, Reps K F H vs (ns.map D.int) → vs = ns.map V.int
  | [], _, h => by cases h; rfl
  | n :: ns, _, h => by
    cases h with
    | cons h1 h2 =>
      cases h1
      rw [Reps.ints h2]
      rfl
theorem Reps.of_ints : ∀ (ns : List Int), Reps K F H (ns.map V.int) (ns.map D.int)
  | [] => .nil
  | n :: ns => .cons (.int n) (Reps.of_ints ns)
end

/-! ### outcomes -/
/-- a mutable object that D knows: a list; an instance with its attributes -/
inductive MO where
  | lst (l : List D)
  | ins (C dx : Addr) (fs : List (Str × D))
  | fn (n : Nat)
abbrev Om := Addr → Option MO
def Om.set (w : Om) (a : Addr) (m : MO) : Om := fun b => if b = a then some m else w b
theorem Om.set_same {w : Om} {a : Addr} {m : MO} : w.set a m a = some m := by unfold Om.set; rw [if_pos rfl]
theorem Om.set_ne {w : Om} {a b : Addr} {m : MO} (h : b ≠ a) : w.set a m b = w b := by unfold Om.set; rw [if_neg h]
theorem Om.set_set {w : Om} {a : Addr} {m m' : MO} : (w.set a m).set a m' = w.set a m' := by
  funext b; unfold Om.set; split <;> rfl
/-- an exception: its class's name, its fields -/
structure Exn where
  cls : Str
  fs : List (Str × D)
/-- a slot: nothing known; a value; a list that stands at its name alone -/
inductive Slot where
  | no
  | p (d : D)
  | o (l : List D)
abbrev Sl := List Slot
inductive Out (α : Type) where
  | stuck
  | any
  | ok (x : α) (w : Om)
  | exc (e : Exn) (r : Sl) (w : Om)
  | new (k : Addr → Out α)
def Out.bind {α β : Type} : Out α → (α → Om → Out β) → Out β
  | .stuck, _ => .stuck
  | .any, _ => .any
  | .ok x w, f => f x w
  | .exc e r w, _ => .exc e r w
  | .new k, f => .new fun a => (k a).bind f
/-- an exception out of a callee: the slots are the caller's -/
def Out.at {α : Type} : Out α → Sl → Out α
  | .exc e _ w, r => .exc e r w
  | .new k, r => .new fun a => (k a).at r
  | o, _ => o
def Out.catch {α : Type} : Out α → (Exn → Sl → Om → Out α) → Out α
  | .exc e r w, h => h e r w
  | .new k, h => .new fun a => (k a).catch h
  | o, _ => o
/-- what is wanted of an outcome -/
def Out.Sat {α : Type} : Out α → (α → Om → Prop) → (Exn → Sl → Om → Prop) → Prop
  | .stuck, _, _ => False
  | .any, _, _ => True
  | .ok x w, P, _ => P x w
  | .exc e r w, _, E => E e r w
  | .new k, P, E => ∀ a, (k a).Sat P E
section
variable {α β : Type} {o : Out α} {f : α → Om → Out β} {P P' : α → Om → Prop} {E E' : Exn → Sl → Om → Prop} {h : Exn → Sl → Om → Out α}
theorem Out.sat_bind : ∀ {o : Out α} {P : β → Om → Prop}, (o.bind f).Sat P E ↔ o.Sat (fun x w => (f x w).Sat P E) E
  | .stuck, _ => Iff.rfl
  | .any, _ => Iff.rfl
  | .ok _ _, _ => Iff.rfl
  | .exc _ _ _, _ => Iff.rfl
  | .new k, _ => forall_congr' fun a => Out.sat_bind (o := k a)
theorem Out.sat_at {r : Sl} : ∀ {o : Out α}, (o.at r).Sat P E ↔ o.Sat P fun e _ w => E e r w
  | .stuck => Iff.rfl
  | .any => Iff.rfl
  | .ok _ _ => Iff.rfl
  | .exc _ _ _ => Iff.rfl
  | .new k => forall_congr' fun a => Out.sat_at (o := k a)
theorem Out.sat_catch : ∀ {o : Out α}, (o.catch h).Sat P E ↔ o.Sat P fun e r w => (h e r w).Sat P E
  | .stuck => Iff.rfl
  | .any => Iff.rfl
  | .ok _ _ => Iff.rfl
  | .exc _ _ _ => Iff.rfl
  | .new k => forall_congr' fun a => Out.sat_catch (o := k a)
theorem Out.Sat.imp : ∀ {o : Out α}, o.Sat P E → (∀ x w, P x w → P' x w) → (∀ e r w, E e r w → E' e r w) → o.Sat P' E'
  | .stuck, h, _, _ => h
  | .any, _, _, _ => trivial
  | .ok x w, h, hp, _ => hp x w h
  | .exc e r w, h, _, he => he e r w h
  | .new k, h, hp, he => fun a => Out.Sat.imp (h a) hp he
theorem Out.Sat.mono {o : Out α} (h : o.Sat P E) (hp : ∀ x w, P x w → P' x w) : o.Sat P' E := h.imp hp fun _ _ _ x => x
@[simp] theorem Out.bind_ok {x : α} {w : Om} : (Out.ok x w).bind f = f x w := (rfl)
@[simp] theorem Out.bind_stuck : (Out.stuck : Out α).bind f = .stuck := (rfl)
@[simp] theorem Out.bind_any : (Out.any : Out α).bind f = .any := (rfl)
@[simp] theorem Out.bind_exc {e : Exn} {r : Sl} {w : Om} : (Out.exc e r w : Out α).bind f = .exc e r w := (rfl)
@[simp] theorem Out.bind_new {k : Addr → Out α} : (Out.new k).bind f = .new fun a => (k a).bind f := (rfl)
@[simp] theorem Out.at_ok {x : α} {w : Om} {r : Sl} : (Out.ok x w).at r = .ok x w := (rfl)
@[simp] theorem Out.at_exc {e : Exn} {w : Om} {r r' : Sl} : (Out.exc e r' w : Out α).at r = .exc e r w := (rfl)
@[simp] theorem Out.catch_ok {x : α} {w : Om} : (Out.ok x w).catch h = .ok x w := (rfl)
@[simp] theorem Out.catch_exc {e : Exn} {w : Om} {r : Sl} : (Out.exc e r w : Out α).catch h = h e r w := (rfl)
@[simp] theorem Out.sat_ok {x : α} {w : Om} : (Out.ok x w).Sat P E ↔ P x w := Iff.rfl
end

/-- a thing made anew: its address is none of the world's -/
def Out.frs {α : Type} (w : Om) (k : Addr → Out α) : Out α := .new fun a => if (w a).isNone = true then k a else .any
theorem Out.sat_frs {α : Type} {w : Om} {k : Addr → Out α} {P : α → Om → Prop} {E : Exn → Sl → Om → Prop} : (Out.frs w k).Sat P E ↔ ∀ a, w a = none → (k a).Sat P E := by
  constructor
  · intro h a e
    have q : (if (w a).isNone = true then k a else .any).Sat P E := h a
    rw [e] at q
    exact q
  · intro h a
    show (if (w a).isNone = true then k a else .any).Sat P E
    split
    · rename_i e
      exact h a (Option.isNone_iff_eq_none.mp e)
    · trivial
@[simp] theorem Out.bind_frs {α β : Type} {w : Om} {k : Addr → Out α} {f : α → Om → Out β} : (Out.frs w k).bind f = Out.frs w fun a => (k a).bind f := by
  show Out.new _ = Out.new _
  congr 1
  funext a
  show (if (w a).isNone = true then k a else .any).bind f = _
  split <;> rfl
@[simp] theorem Out.at_frs {α : Type} {w : Om} {k : Addr → Out α} {r : Sl} : (Out.frs w k).at r = Out.frs w fun a => (k a).at r := by
  show Out.new _ = Out.new _
  congr 1
  funext a
  show (if (w a).isNone = true then k a else .any).at r = _
  split <;> rfl
@[simp] theorem Out.catch_frs {α : Type} {w : Om} {k : Addr → Out α} {h : Exn → Sl → Om → Out α} : (Out.frs w k).catch h = Out.frs w fun a => (k a).catch h := by
  show Out.new _ = Out.new _
  congr 1
  funext a
  show (if (w a).isNone = true then k a else .any).catch h = _
  split <;> rfl
/-! ### states -/
/-- the tables of the code objects; those of defs that make lambdas, with the lambdas' name; what stands at a lambda -/
structure Tbl where
  ts : List Addr
  ls : List (Addr × Str)
  lm : Nat → (Addr → Prop) → Hp → Addr → Prop
  lmS : ∀ n F H F' H' a, Tr F H F' H' → (∀ o, H a = some o → H' a = some o) → lm n F H a → lm n F' H' a
  lmA : ∀ n F H a, lm n F H a → H a ≠ none
instance : Membership Addr Tbl := ⟨fun t a => a ∈ t.ts⟩
/-- what is fixed through a def's run: the tables of the code objects, the heap and the world at the entry, what callers keep for themselves -/
structure Gc where
  K : PySem.W.Frag
  T : Tbl
  H0 : Hp
  w0 : Om
  Xs : Addr → Prop
def Fx (G : Gc) (O : List Addr) (w : Om) : Addr → Prop := fun a => a ∈ O ∨ w a ≠ none ∨ G.Xs a ∨ a ∈ G.T
inductive FReps (K : PySem.W.Frag) (F : Addr → Prop) (H : Hp) : List (Str × V) → List (Str × D) → Prop
  | nil : FReps K F H [] []
  | cons {n : Str} {v : V} {d : D} {vs : List (Str × V)} {ds : List (Str × D)} : Rep K F H v d → FReps K F H vs ds → FReps K F H ((n, v) :: vs) ((n, d) :: ds)
def MOk (T : Tbl) (K : PySem.W.Frag) (F : Addr → Prop) (H : Hp) (a : Addr) : MO → Prop
  | .lst l => ∃ xs, H a = some (.lst xs) ∧ Reps K F H xs l
  | .ins C dx fs => ∃ vs, H a = some (.ins C dx vs) ∧ FReps K F H vs fs
  | .fn n => T.lm n F H a
inductive Slots (K : PySem.W.Frag) (F : Addr → Prop) (H : Hp) : List Addr → L2.St → Sl → Prop
  | nil : Slots K F H [] [] []
  | no {O : List Addr} {s : Option V} {t : L2.St} {r : Sl} : Slots K F H O t r → Slots K F H O (s :: t) (.no :: r)
  | p {O : List Addr} {v : V} {d : D} {t : L2.St} {r : Sl} : Rep K F H v d → Slots K F H O t r → Slots K F H O (some v :: t) (.p d :: r)
  | o {O : List Addr} {a : Addr} {xs : List V} {l : List D} {t : L2.St} {r : Sl} : H a = some (.lst xs) → Reps K F H xs l → Slots K F H O t r → Slots K F H (a :: O) (some (.ref a) :: t) (.o l :: r)
/-- a table of code objects, as AnyAll has it -/
def TabG (H : Hp) (P : Addr) : Prop := ∃ ps : Array Value, H P = some (.tbl ps) ∧ TriplesOk ps.toList
/-- the table of a def that makes lambdas of the name q -/
def LTab (F : Addr → Prop) (H : Hp) (P : Addr) (q : Str) : Prop := ∃ ps : Array Value, H P = some (.tbl ps) ∧ TriplesOk ps.toList ∧ ∀ (pos : Pos) (cv : Value), codeAmong pos ps.toList = some cv → ∃ c, cv = .ref c ∧ H c = some (LamX.CodeO c q) ∧ ¬ F c
theorem LTab.tr {F F' : Addr → Prop} {H H' : Hp} {P : Addr} {q : Str} (t : Tr F H F' H') (e : H' P = H P) (h : LTab F H P q) : LTab F' H' P q := by
  obtain ⟨ps, h1, h2, h3⟩ := h
  refine ⟨ps, e.trans h1, h2, fun pos cv hc => ?_⟩
  obtain ⟨c, e1, e2, e3⟩ := h3 pos cv hc
  exact ⟨c, e1, (t c _ e2 e3).1, (t c _ e2 e3).2⟩
/-- the state, but for the slots -/
structure Wor (G : Gc) (O : List Addr) (w : Om) (H : Hp) : Prop where
  keep : ∀ a o, G.H0 a = some o → G.w0 a = none → a ∉ G.T → H a = some o ∧ w a = none ∧ a ∉ O
  tabs : ∀ P ∈ G.T, TabG H P
  wok : ∀ a m, w a = some m → MOk G.T G.K (Fx G O w) H a m
  odis : O.Nodup ∧ ∀ a ∈ O, w a = none ∧ a ∉ G.T ∧ ¬ G.Xs a
  wdis : ∀ a, w a ≠ none → a ∉ G.T ∧ ¬ G.Xs a
  xsome : ∀ a, G.Xs a → H a ≠ none
  osome : ∀ a ∈ O, H a ≠ none
  ltabs : ∀ p ∈ G.T.ls, p.1 ∈ G.T ∧ LTab (Fx G O w) H p.1 p.2
theorem Wor.ltr {G : Gc} {O O' : List Addr} {w w' : Om} {H H' : Hp} (W : Wor G O w H) (t : Tr (Fx G O w) H (Fx G O' w') H') (e : ∀ P ∈ G.T, H' P = H P) : ∀ p ∈ G.T.ls, p.1 ∈ G.T ∧ LTab (Fx G O' w') H' p.1 p.2 :=
  fun p hp => ⟨(W.ltabs p hp).1, (W.ltabs p hp).2.tr t (e _ (W.ltabs p hp).1)⟩
structure Rel (G : Gc) (O : List Addr) (w : Om) (r : Sl) (s : L2.St) (H : Hp) : Prop extends Wor G O w H where
  slots : ∃ O1 : List Addr, O1.Nodup ∧ (∀ a ∈ O1, a ∈ O) ∧ Slots G.K (Fx G O w) H O1 s r
/-- through an expression: all that is not of the world or the tables stands -/
def TrE (G : Gc) (w : Om) (H : Hp) (w' : Om) (H' : Hp) : Prop := ∀ a o, H a = some o → w a = none → a ∉ G.T → H' a = some o ∧ w' a = none
theorem TrE.refl (G : Gc) (w : Om) (H : Hp) : TrE G w H w H := fun _ _ e n _ => ⟨e, n⟩
theorem TrE.trans {G : Gc} {w w1 w2 : Om} {H H1 H2 : Hp} (a : TrE G w H w1 H1) (b : TrE G w1 H1 w2 H2) : TrE G w H w2 H2 := fun x o e n t =>
  let ⟨e1, n1⟩ := a x o e n t
  b x o e1 n1 t
theorem TrE.tr {G : Gc} {O : List Addr} {w w' : Om} {H H' : Hp} (t : TrE G w H w' H') : Tr (Fx G O w) H (Fx G O w') H' := fun a o e n => by
  have n1 : a ∉ O := fun z => n (.inl z)
  have n2 : w a = none := by
    cases q : w a with
    | none => rfl
    | some m => exact absurd (.inr (.inl (by rw [q]; simp))) n
  have n3 : ¬ G.Xs a := fun z => n (.inr (.inr (.inl z)))
  have n4 : a ∉ G.T := fun z => n (.inr (.inr (.inr z)))
  obtain ⟨e1, e2⟩ := t a o e n2 n4
  refine ⟨e1, fun z => ?_⟩
  rcases z with z | z | z | z
  · exact n1 z
  · exact z e2
  · exact n3 z
  · exact n4 z
theorem Wor.fsome {G : Gc} {O : List Addr} {w : Om} {H : Hp} (W : Wor G O w H) {a : Addr} (h : Fx G O w a) : H a ≠ none := by
  rcases h with h | h | h | h
  · exact W.osome a h
  · cases q : w a with
    | none => exact absurd q h
    | some m =>
      have := W.wok a m q
      cases m with
      | lst l => obtain ⟨xs, e, _⟩ := this; rw [e]; simp
      | ins C dx fs => obtain ⟨xs, e, _⟩ := this; rw [e]; simp
      | fn n => exact G.T.lmA n _ _ _ this
  · exact W.xsome a h
  · obtain ⟨ps, e, _⟩ := W.tabs a h; rw [e]; simp
theorem Wor.fresh {G : Gc} {O : List Addr} {w : Om} {H : Hp} (W : Wor G O w H) {a : Addr} (h : H a = none) : ¬ Fx G O w a := fun z => W.fsome z h
end DL

set_option Elab.async false
set_option linter.all false
set_option maxRecDepth 100000
set_option maxHeartbeats 1000000
/-! DL2: moving states; the judgements; plain expressions. -/
namespace DL
open PySem PySem.Spec L2
open PyProof.Rows hiding St

section
variable {K : PySem.W.Frag} {F F' : Addr → Prop} {H H' : Hp}
theorem FReps.tr (t : Tr F H F' H') : ∀ {vs : List (Str × V)} {ds : List (Str × D)}, FReps K F H vs ds → FReps K F' H' vs ds
  | _, _, .nil => .nil
  | _, _, .cons h1 h2 => .cons (Rep.tr t _ _ h1) (FReps.tr t h2)
theorem tr_sub (h : ∀ a, F' a → F a) : Tr F H F' H := fun a o e n => ⟨e, fun z => n (h a z)⟩
theorem tr_ext (h : ∀ a o, H a = some o → ¬ F a → H' a = some o) : Tr F H F H' := fun a o e n => ⟨h a o e n, n⟩
end
section
variable {G : Gc} {O : List Addr} {w w' : Om} {H H' : Hp} {r : Sl} {s : L2.St}
theorem Slots.tr {F F' : Addr → Prop} (t : Tr F H F' H') : ∀ {O : List Addr} {s : L2.St} {r : Sl}, (∀ a ∈ O, ∀ o, H a = some o → H' a = some o) → Slots G.K F H O s r → Slots G.K F' H' O s r
  | _, _, _, _, .nil => .nil
  | _, _, _, ho, .no h => .no (Slots.tr t ho h)
  | _, _, _, ho, .p h1 h2 => .p (Rep.tr t _ _ h1) (Slots.tr t ho h2)
  | _, _, _, ho, .o h1 h2 h3 => .o (ho _ (List.mem_cons_self ..) _ h1) (Reps.tr t _ _ h2) (Slots.tr t (fun a m => ho a (List.mem_cons_of_mem _ m)) h3)
theorem Rel.of_wor (R : Rel G O w r s H) (W : Wor G O w' H') (t : TrE G w H w' H') : Rel G O w' r s H' :=
  by
  obtain ⟨O1, n, sub, h⟩ := R.slots
  exact ⟨W, O1, n, sub, h.tr t.tr fun a m o e => (t a o e (R.odis.2 a (sub a m)).1 (R.odis.2 a (sub a m)).2.1).1⟩
theorem tre_ext (h : ∀ a o, H a = some o → H' a = some o) : TrE G w H w H' := fun a o e n _ => ⟨h a o e, n⟩
theorem MOk.tr {T : Tbl} {K : PySem.W.Frag} {F F' : Addr → Prop} {a : Addr} {m : MO} (t : Tr F H F' H') (e : ∀ o, H a = some o → H' a = some o) (h : MOk T K F H a m) : MOk T K F' H' a m := by
  cases m with
  | lst l => obtain ⟨xs, h1, h2⟩ := h; exact ⟨xs, e _ h1, Reps.tr t _ _ h2⟩
  | ins C dx fs => obtain ⟨xs, h1, h2⟩ := h; exact ⟨xs, e _ h1, FReps.tr t h2⟩
  | fn n => exact T.lmS n _ _ _ _ _ t e h
/-- all that was tracked stands -/
theorem Wor.ext (W : Wor G O w H) (h : ∀ a o, H a = some o → H' a = some o) : Wor G O w H' where
  keep := fun a o e n t => let ⟨h1, h2, h3⟩ := W.keep a o e n t; ⟨h a o h1, h2, h3⟩
  tabs := fun P hP => let ⟨ps, e, t⟩ := W.tabs P hP; ⟨ps, h _ _ e, t⟩
  wok := fun a m e => (W.wok a m e).tr (tre_ext (G := G) (w := w) h).tr fun o q => h a o q
  odis := W.odis
  wdis := W.wdis
  xsome := fun a x z => W.xsome a x (by
    cases q : H a with
    | none => rfl
    | some o => rw [h a o q] at z; cases z)
  osome := fun a x z => W.osome a x (by
    cases q : H a with
    | none => rfl
    | some o => rw [h a o q] at z; cases z)
  ltabs := W.ltr (tre_ext (G := G) (w := w) h).tr fun P hP => by
    obtain ⟨ps, e, _⟩ := W.tabs P hP
    rw [e, h _ _ e]
theorem Rel.ext (R : Rel G O w r s H) (h : ∀ a o, H a = some o → H' a = some o) : Rel G O w r s H' := R.of_wor (R.toWor.ext h) (tre_ext h)
theorem new_ext {p : Addr} {o : HO} (h : H p = none) : ∀ a u, H a = some u → upd H p o a = some u := fun a u e => by rw [upd_ne (ne_of_none e h)]; exact e
theorem Rel.new {p : Addr} {o : HO} (R : Rel G O w r s H) (h : H p = none) : Rel G O w r s (upd H p o) ∧ TrE G w H w (upd H p o) := ⟨R.ext (new_ext h), tre_ext (new_ext h)⟩
theorem Slots.get_p {K : PySem.W.Frag} {F : Addr → Prop} {d : D} : ∀ {O : List Addr} {s : L2.St} {r : Sl} {i : Nat}, Slots K F H O s r → r[i]? = some (.p d) → ∃ v, s[i]? = some (some v) ∧ Rep K F H v d
  | _, _, _, _, .nil, e => by simp at e
  | _, _, _, 0, .no _, e => by simp at e
  | _, _, _, 0, .p h _, e => by simp at e; subst e; exact ⟨_, rfl, h⟩
  | _, _, _, 0, .o _ _ _, e => by simp at e
  | _, _, _, i + 1, .no h, e => by
    obtain ⟨v, h1, h2⟩ := Slots.get_p (i := i) h (by simpa using e)
    exact ⟨v, by simpa using h1, h2⟩
  | _, _, _, i + 1, .p _ h, e => by
    obtain ⟨v, h1, h2⟩ := Slots.get_p (i := i) h (by simpa using e)
    exact ⟨v, by simpa using h1, h2⟩
  | _, _, _, i + 1, .o _ _ h, e => by
    obtain ⟨v, h1, h2⟩ := Slots.get_p (i := i) h (by simpa using e)
    exact ⟨v, by simpa using h1, h2⟩
theorem Slots.get_o {K : PySem.W.Frag} {F : Addr → Prop} {l : List D} : ∀ {O : List Addr} {s : L2.St} {r : Sl} {i : Nat}, Slots K F H O s r → r[i]? = some (.o l) → ∃ a xs, s[i]? = some (some (.ref a)) ∧ a ∈ O ∧ H a = some (.lst xs) ∧ Reps K F H xs l
  | _, _, _, _, .nil, e => by simp at e
  | _, _, _, 0, .no _, e => by simp at e
  | _, _, _, 0, .p h _, e => by simp at e
  | _, _, _, 0, .o h1 h2 _, e => by simp at e; subst e; exact ⟨_, _, rfl, List.mem_cons_self .., h1, h2⟩
  | _, _, _, i + 1, .no h, e => by
    obtain ⟨a, xs, h1, h2, h3⟩ := Slots.get_o (i := i) h (by simpa using e)
    exact ⟨a, xs, by simpa using h1, h2, h3⟩
  | _, _, _, i + 1, .p _ h, e => by
    obtain ⟨a, xs, h1, h2, h3⟩ := Slots.get_o (i := i) h (by simpa using e)
    exact ⟨a, xs, by simpa using h1, h2, h3⟩
  | _, _, _, i + 1, .o _ _ h, e => by
    obtain ⟨a, xs, h1, h2, h3⟩ := Slots.get_o (i := i) h (by simpa using e)
    exact ⟨a, xs, by simpa using h1, List.mem_cons_of_mem _ h2, h3⟩
end

theorem Rel.get_p {G : Gc} {O : List Addr} {w : Om} {H : Hp} {r : Sl} {s : L2.St} {i : Nat} {d : D} (R : Rel G O w r s H) (e : r[i]? = some (.p d)) : ∃ v, s[i]? = some (some v) ∧ Rep G.K (Fx G O w) H v d := by
  obtain ⟨O1, n, sub, h⟩ := R.slots
  exact h.get_p e
theorem Rel.get_o {G : Gc} {O : List Addr} {w : Om} {H : Hp} {r : Sl} {s : L2.St} {i : Nat} {l : List D} (R : Rel G O w r s H) (e : r[i]? = some (.o l)) : ∃ a xs, s[i]? = some (some (.ref a)) ∧ a ∈ O ∧ H a = some (.lst xs) ∧ Reps G.K (Fx G O w) H xs l := by
  obtain ⟨O1, n, sub, h⟩ := R.slots
  obtain ⟨a, xs, h1, h2, h3⟩ := h.get_o e
  exact ⟨a, xs, h1, sub a h2, h3⟩

/-! ### the judgements -/
/-- an exception's representation -/
def XRep (K : PySem.W.Frag) (mg : Str → Option Value) (F : Addr → Prop) (H : Hp) (x : Exn) (cls : Value) (od : Option Addr) : Prop :=
  ∃ C, mg x.cls = some (.ref C) ∧ cls = .ref C ∧ ((x.fs = [] ∧ od = none) ∨ ∃ d vs, od = some d ∧ H d = some (.xd vs) ∧ FReps K F H vs x.fs)
/-- a value, or a list that stands at its name alone -/
def BRep (G : Gc) (O : List Addr) (w : Om) (H : Hp) (v : V) (d : D) : Prop :=
  Rep G.K (Fx G O w) H v d ∨ ∃ a xs l, v = .ref a ∧ d = .lst l ∧ a ∈ O ∧ H a = some (.lst xs) ∧ Reps G.K (Fx G O w) H xs l
inductive BReps (G : Gc) (O : List Addr) (w : Om) (H : Hp) : List V → List D → Prop
  | nil : BReps G O w H [] []
  | cons {v : V} {vs : List V} {d : D} {ds : List D} : BRep G O w H v d → BReps G O w H vs ds → BReps G O w H (v :: vs) (d :: ds)
/-- what is wanted of an exception -/
def OkX (X : Cx) (G : Gc) (W : WX) : Exn → Sl → Om → Prop := fun x r' w' => ∀ cls od O' s' H', Rel G O' w' r' s' H' → XRep X.K X.mg (Fx G O' w') H' x cls od → W cls od s' H'
structure DE (X : Cx) (T : Tbl) (W : WX) (e : Expr) (f : Sl → Om → Out D) : Prop where
  run : ∃ te : TE, PE X e te ∧ ∀ (G : Gc) (O : List Addr) (w : Om) (r : Sl) (s : L2.St) (H : Hp) (Q : VK), G.K = X.K → G.T = T → Rel G O w r s H →
    (f r w).Sat (fun d w' => ∀ v H', Rel G O w' r s H' → TrE G w H w' H' → Rep G.K (Fx G O w') H' v d → Q v H') (OkX X G W) → te s H Q
structure BE (X : Cx) (T : Tbl) (W : WX) (e : Expr) (f : Sl → Om → Out D) : Prop where
  run : ∃ te : TE, PE X e te ∧ ∀ (G : Gc) (O : List Addr) (w : Om) (r : Sl) (s : L2.St) (H : Hp) (Q : VK), G.K = X.K → G.T = T → Rel G O w r s H →
    (f r w).Sat (fun d w' => ∀ v H', Rel G O w' r s H' → TrE G w H w' H' → BRep G O w' H' v d → Q v H') (OkX X G W) → te s H Q
structure DT (X : Cx) (T : Tbl) (W : WX) (e : Expr) (f : Sl → Om → Out Bool) : Prop where
  run : ∃ te : TT, PT X e te ∧ ∀ (G : Gc) (O : List Addr) (w : Om) (r : Sl) (s : L2.St) (H : Hp) (Q : Bool → Hp → Prop), G.K = X.K → G.T = T → Rel G O w r s H →
    (f r w).Sat (fun d w' => ∀ H', Rel G O w' r s H' → TrE G w H w' H' → Q d H') (OkX X G W) → te s H Q
structure DA (X : Cx) (T : Tbl) (W : WX) (es : List Expr) (f : Sl → Om → Out (List D)) : Prop where
  run : ∃ te : TA, PA X es te ∧ ∀ (G : Gc) (O : List Addr) (w : Om) (r : Sl) (s : L2.St) (H : Hp) (Q : List V → Hp → Prop), G.K = X.K → G.T = T → Rel G O w r s H →
    (f r w).Sat (fun ds w' => ∀ vs H', Rel G O w' r s H' → TrE G w H w' H' → Reps G.K (Fx G O w') H' vs ds → Q vs H') (OkX X G W) → te s H Q
structure BA (X : Cx) (T : Tbl) (W : WX) (es : List Expr) (f : Sl → Om → Out (List D)) : Prop where
  run : ∃ te : TA, PA X es te ∧ ∀ (G : Gc) (O : List Addr) (w : Om) (r : Sl) (s : L2.St) (H : Hp) (Q : List V → Hp → Prop), G.K = X.K → G.T = T → Rel G O w r s H →
    (f r w).Sat (fun ds w' => ∀ vs H', Rel G O w' r s H' → TrE G w H w' H' → BReps G O w' H' vs ds → Q vs H') (OkX X G W) → te s H Q

section
variable {G : Gc} {O : List Addr} {w w' : Om} {H H' : Hp} {v : V} {d : D} {r : Sl} {s : L2.St}
theorem BRep.of (h : Rep G.K (Fx G O w) H v d) : BRep G O w H v d := .inl h
theorem BRep.tr (R : Wor G O w H) (t : TrE G w H w' H') (h : BRep G O w H v d) : BRep G O w' H' v d := by
  rcases h with h | ⟨a, xs, l, e1, e2, m, e3, h⟩
  · exact .inl (Rep.tr t.tr _ _ h)
  · exact .inr ⟨a, xs, l, e1, e2, m, (t a _ e3 (R.odis.2 a m).1 (R.odis.2 a m).2.1).1, Reps.tr t.tr _ _ h⟩
theorem BReps.tr (R : Wor G O w H) (t : TrE G w H w' H') : ∀ {vs : List V} {ds : List D}, BReps G O w H vs ds → BReps G O w' H' vs ds
  | _, _, .nil => .nil
  | _, _, .cons h1 h2 => .cons (h1.tr R t) (BReps.tr R t h2)
/-- a list that is read -/
theorem BRep.list {l : List D} (h : BRep G O w H v (.lst l)) : ∃ a xs, v = .ref a ∧ H a = some (.lst xs) ∧ Reps G.K (Fx G O w) H xs l := by
  rcases h with h | ⟨a, xs, l', e1, e2, m, e3, h⟩
  · cases h with
    | lst h1 h2 h3 => exact ⟨_, _, rfl, h1, h3⟩
  · cases e2
    exact ⟨a, xs, e1, e3, h⟩
theorem BRep.flist {l : List D} (h : BRep G O w H v (.fl l)) : ∃ a xs, v = .ref a ∧ SqL G.K H a xs ∧ Reps G.K (Fx G O w) H xs l := by
  rcases h with h | ⟨a, xs, l', e1, e2, m, e3, h⟩
  · cases h with
    | fl h1 h2 => exact ⟨_, _, rfl, h1.sq, h2⟩
  · cases e2
theorem BRep.tuple {l : List D} (h : BRep G O w H v (.tup l)) : ∃ a xs, v = .ref a ∧ SqT G.K H a xs ∧ Reps G.K (Fx G O w) H xs l ∧ Rep G.K (Fx G O w) H v (.tup l) := by
  rcases h with h | ⟨a, xs, l', e1, e2, m, e3, h⟩
  · cases h with
    | tup h1 h2 => exact ⟨_, _, rfl, h1.sq, h2, .tup h1 h2⟩
  · cases e2
theorem BRep.int {i : Int} (h : BRep G O w H v (.int i)) : v = .int i := by
  rcases h with h | ⟨a, xs, l', e1, e2, m, e3, h⟩
  · cases h; rfl
  · cases e2
theorem BRep.bl {i : Bool} (h : BRep G O w H v (.bl i)) : v = .bl i := by
  rcases h with h | ⟨a, xs, l', e1, e2, m, e3, h⟩
  · cases h; rfl
  · cases e2
theorem BRep.str {i : Str} (h : BRep G O w H v (.str i)) : v = .str i := by
  rcases h with h | ⟨a, xs, l', e1, e2, m, e3, h⟩
  · cases h; rfl
  · cases e2
theorem BRep.non (h : BRep G O w H v .non) : v = .non := by
  rcases h with h | ⟨a, xs, l', e1, e2, m, e3, h⟩
  · cases h; rfl
  · cases e2
theorem BRep.ref {a : Addr} (h : BRep G O w H v (.ref a)) : v = .ref a := by
  rcases h with h | ⟨a, xs, l', e1, e2, m, e3, h⟩
  · cases h; rfl
  · cases e2
theorem Rep.int' {K : PySem.W.Frag} {F : Addr → Prop} {i : Int} (h : Rep K F H v (.int i)) : v = .int i := by cases h; rfl
theorem Rep.bl' {K : PySem.W.Frag} {F : Addr → Prop} {i : Bool} (h : Rep K F H v (.bl i)) : v = .bl i := by cases h; rfl
theorem Rep.str' {K : PySem.W.Frag} {F : Addr → Prop} {i : Str} (h : Rep K F H v (.str i)) : v = .str i := by cases h; rfl
theorem Rep.non' {K : PySem.W.Frag} {F : Addr → Prop} (h : Rep K F H v .non) : v = .non := by cases h; rfl
theorem Rep.ref' {K : PySem.W.Frag} {F : Addr → Prop} {a : Addr} (h : Rep K F H v (.ref a)) : v = .ref a := by cases h; rfl
end

section
variable {X : Cx} {T : Tbl} {W : WX} {e a b : Expr} {f fa fb : Sl → Om → Out D} {pos : Pos}
theorem DE.be (h : DE X T W e f) : BE X T W e f := by
  obtain ⟨te, hp, h⟩ := h.run
  exact ⟨te, hp, fun G O w r s H Q hK hT R hs => h G O w r s H Q hK hT R (hs.mono fun d w' q v H' R' t p => q v H' R' t (.inl p))⟩
/-- a name -/
def eVar (i : Nat) : Sl → Om → Out D := fun r w => match r[i]? with
  | some (.p d) => .ok d w
  | _ => .stuck
theorem dx_var (i : Nat) {x : Str} (hN : X.N[i]? = some x := by rfl) (hv : Vis X.env.scope x := by first | exact Or.inl rfl | exact Or.inr (Or.inl rfl) | exact Or.inr (Or.inr rfl)) (hd : (x == ("__debug__" : Str)) = false := by decide)
    (hcd : (x == ("__classdict__" : Str)) = false := by decide) : DE X T W (.Name x pos) (eVar i) := by
  refine ⟨_, pv i hN hv hd hcd, fun G O w r s H Q hK hT R hs => ?_⟩
  unfold eVar at hs
  split at hs
  · rename_i d e
    obtain ⟨v, h1, h2⟩ := R.get_p e
    exact ⟨v, h1, hs v H R (TrE.refl _ _ _) h2⟩
  · exact hs.elim
/-- a name, its list lent -/
def eOwn (i : Nat) : Sl → Om → Out D := fun r w => match r[i]? with
  | some (.o l) => .ok (.lst l) w
  | some (.p d) => .ok d w
  | _ => .stuck
theorem bx_own (i : Nat) {x : Str} (hN : X.N[i]? = some x := by rfl) (hv : Vis X.env.scope x := by first | exact Or.inl rfl | exact Or.inr (Or.inl rfl) | exact Or.inr (Or.inr rfl)) (hd : (x == ("__debug__" : Str)) = false := by decide)
    (hcd : (x == ("__classdict__" : Str)) = false := by decide) : BE X T W (.Name x pos) (eOwn i) := by
  refine ⟨_, pv i hN hv hd hcd, fun G O w r s H Q hK hT R hs => ?_⟩
  unfold eOwn at hs
  split at hs
  · rename_i l e
    obtain ⟨a, xs, h1, h2, h3, h4⟩ := R.get_o e
    exact ⟨_, h1, hs _ H R (TrE.refl _ _ _) (.inr ⟨a, xs, l, rfl, rfl, h2, h3, h4⟩)⟩
  · rename_i d e
    obtain ⟨v, h1, h2⟩ := R.get_p e
    exact ⟨v, h1, hs v H R (TrE.refl _ _ _) (.inl h2)⟩
  · exact hs.elim
def eC (d : D) : Sl → Om → Out D := fun _ w => .ok d w
theorem dx_c {v : V} {d : D} (h : PE X e (tC v)) (hr : ∀ K F H, Rep K F H v d) : DE X T W e (eC d) :=
  ⟨_, h, fun G O w r s H Q hK hT R hs => hs v H R (TrE.refl _ _ _) (hr _ _ _)⟩
theorem dx_int {i j} : DE X T W (.Constant (.int i) j pos) (eC (.int i)) := dx_c pe_int fun _ _ _ => .int i
theorem dx_bl {b j} : DE X T W (.Constant (.bool b) j pos) (eC (.bl b)) := dx_c pe_bl fun _ _ _ => .bl b
theorem dx_non {j} : DE X T W (.Constant .none j pos) (eC .non) := dx_c pe_non fun _ _ _ => .non
theorem dx_str {x j} : DE X T W (.Constant (.str x) j pos) (eC (.str x)) := dx_c pe_str fun _ _ _ => .str x

/-- two operands, then an operation by values -/
def e2 (fa fb : Sl → Om → Out D) (op : D → D → Om → Out D) : Sl → Om → Out D := fun r w => (fa r w).bind fun x w => (fb r w).bind fun y w => op x y w
/-- what a rule of the layer's must be worth: from the operands lent -/
def OpD (X : Cx) (T : Tbl) (W : WX) (rr : R2) (op : D → D → Om → Out D) : Prop :=
  ∀ (G : Gc) (O : List Addr) (w : Om) (r : Sl) (s : L2.St) (H : Hp) (x y : V) (dx dy : D) (Q : VK), G.K = X.K → G.T = T → Rel G O w r s H → BRep G O w H x dx → BRep G O w H y dy →
    (op dx dy w).Sat (fun d w' => ∀ v H', Rel G O w' r s H' → TrE G w H w' H' → Rep G.K (Fx G O w') H' v d → Q v H') (OkX X G W) → rr x y H Q
theorem dx_2 {te : TE → TE → TE} {rr : R2} {op : D → D → Om → Out D} (ha : BE X T W a fa) (hb : BE X T W b fb) (hp : ∀ {ta tb : TE}, PE X a ta → PE X b tb → PE X e (tOp rr ta tb)) (ho : OpD X T W rr op) : DE X T W e (e2 fa fb op) := by
  obtain ⟨ta, pa, ha⟩ := ha.run
  obtain ⟨tb, pb, hb⟩ := hb.run
  refine ⟨_, hp pa pb, fun G O w r s H Q hK hT R hs => ?_⟩
  unfold e2 at hs
  rw [Out.sat_bind] at hs
  refine ha G O w r s H _ hK hT R (hs.mono fun dx w1 hs1 x H1 R1 t1 p1 => ?_)
  rw [Out.sat_bind] at hs1
  refine hb G O w1 r s H1 _ hK hT R1 (hs1.mono fun dy w2 hs2 y H2 R2 t2 p2 => ?_)
  exact ho G O w2 r s H2 x y dx dy Q hK hT R2 (p1.tr R1.toWor t2) p2 (hs2.mono fun d w3 q v H3 R3 t3 p3 => q v H3 R3 ((t1.trans t2).trans t3) p3)
end
end DL

set_option Elab.async false
set_option linter.all false
set_option maxRecDepth 100000
set_option maxHeartbeats 1000000
/-! DL3: operators, comparisons, tests. -/
namespace DL
open PySem PySem.Spec L2
open PyProof.Rows hiding St

section
variable {G : Gc} {O : List Addr} {w w' : Om} {H H' : Hp} {r : Sl} {s : L2.St} {p : Addr} {xs : List V} {l : List D}
theorem new_tup (R : Rel G O w r s H) (hp : H p = none) (h : Reps G.K (Fx G O w) H xs l) :
    Rel G O w r s (upd H p (.tup xs)) ∧ TrE G w H w (upd H p (.tup xs)) ∧ Rep G.K (Fx G O w) (upd H p (.tup xs)) (.ref p) (.tup l) := by
  obtain ⟨R1, t1⟩ := R.new (o := .tup xs) hp
  exact ⟨R1, t1, .tup (TpAt.mk upd_same (R.toWor.fresh hp)) (Reps.tr t1.tr _ _ h)⟩
theorem new_lst (R : Rel G O w r s H) (hp : H p = none) (h : Reps G.K (Fx G O w) H xs l) :
    Rel G O w r s (upd H p (.lst xs)) ∧ TrE G w H w (upd H p (.lst xs)) ∧ Rep G.K (Fx G O w) (upd H p (.lst xs)) (.ref p) (.lst l) := by
  obtain ⟨R1, t1⟩ := R.new (o := .lst xs) hp
  exact ⟨R1, t1, .lst upd_same (R.toWor.fresh hp) (Reps.tr t1.tr _ _ h)⟩
end

/-! ### data -/
mutual
def D.py : D → Option PyData
  | .non => some .none
  | .bl b => some (.bool b)
  | .int i => some (.int i)
  | .str x => some (.str x)
  | .tup l => (D.pys l).map .tuple
  | .lst l => (D.pys l).map .list
  | .fl l => (D.pys l).map .list
  | .ref _ => none
def D.pys : List D → Option (List PyData)
  | [] => some []
  | d :: ds => (D.py d).bind fun x => (D.pys ds).map (x :: ·)
end
section
variable {K : PySem.W.Frag} {F : Addr → Prop} {H : Hp}
mutual
theorem Rep.dp : ∀ (d : D) (v : V) (x : PyData), Rep K F H v d → d.py = some x → Dp K H v x
  | .non, _, _, h, e => by cases h; cases e; exact .non
  | .bl b, _, _, h, e => by cases h; cases e; exact .bl b
  | .int i, _, _, h, e => by cases h; cases e; exact .int i
  | .str x, _, _, h, e => by cases h; cases e; exact .str x
  | .ref a, _, _, h, e => by cases e
  | .tup l, _, _, h, e => by
    cases h with
    | tup h1 h2 =>
      unfold D.py at e
      obtain ⟨y, e1, e2⟩ := Option.map_eq_some_iff.mp e
      subst e2
      exact .tup h1.sq (Reps.dp l _ y h2 e1)
  | .lst l, _, _, h, e => by
    cases h with
    | lst h1 h2 h3 =>
      unfold D.py at e
      obtain ⟨y, e1, e2⟩ := Option.map_eq_some_iff.mp e
      subst e2
      exact .lst (.inl (.inl h1)) (Reps.dp l _ y h3 e1)
  | .fl l, _, _, h, e => by
    cases h with
    | fl h1 h2 =>
      unfold D.py at e
      obtain ⟨y, e1, e2⟩ := Option.map_eq_some_iff.mp e
      subst e2
      exact .lst h1.sq (Reps.dp l _ y h2 e1)
theorem Reps.dp : ∀ (ds : List D) (vs : List V) (xs : List PyData), Reps K F H vs ds → D.pys ds = some xs → DpAll K H vs xs
  | [], _, _, h, e => by
    cases h
    unfold D.pys at e
    cases e
    exact .nil
  | d :: ds, _, _, h, e => by
    cases h with
    | cons h1 h2 =>
      unfold D.pys at e
      obtain ⟨y, e1, e2⟩ := Option.bind_eq_some_iff.mp e
      obtain ⟨ys, e3, e4⟩ := Option.map_eq_some_iff.mp e2
      subst e4
      exact .cons (Rep.dp d _ y h1 e1) (Reps.dp ds _ ys h2 e3)
end
end
theorem BRep.dp {G : Gc} {O : List Addr} {w : Om} {H : Hp} {v : V} {d : D} {x : PyData} (h : BRep G O w H v d) (e : d.py = some x) : Dp G.K H v x := by
  rcases h with h | ⟨a, xs, l, e1, e2, m, e3, h⟩
  · exact Rep.dp d v x h e
  · subst e1 e2
    unfold D.py at e
    obtain ⟨y, q1, q2⟩ := Option.map_eq_some_iff.mp e
    subst q2
    exact .lst (.inl (.inl e3)) (Reps.dp l _ y h q1)
/-- equality as Python has it; nothing where it is not plain data -/
def D.eqv? (x y : D) : Option Bool := match x.py, y.py with
  | some a, some b => if SeqAt.shaped a = true ∧ SeqAt.shaped b = true then some (PyData.eqv a b) else none
  | _, _ => none

/-! ### operators -/
def dAdd : D → D → Om → Out D
  | .int i, .int j, w => .ok (.int (i + j)) w
  | .str a, .str b, w => if a.length + b.length ≤ sizeLine then .ok (.str (a ++ b)) w else .stuck
  | .tup a, .tup b, w => if a.length + b.length ≤ sizeLine then .ok (.tup (a ++ b)) w else .stuck
  | .lst a, .lst b, w => if a.length + b.length ≤ sizeLine then .ok (.lst (a ++ b)) w else .stuck
  | _, _, _ => .stuck
def dSub : D → D → Om → Out D
  | .int i, .int j, w => .ok (.int (i - j)) w
  | _, _, _ => .stuck
def dMul : D → D → Om → Out D
  | .int i, .int j, w => if (-(2 ^ 64) < i ∧ i < 2 ^ 64) ∨ (-(2 ^ 64) < j ∧ j < 2 ^ 64) then .ok (.int (i * j)) w else .stuck
  | .lst a, .int k, w => if 0 ≤ k ∧ k < 2 ^ 63 ∧ a.length * k.toNat ≤ sizeLine then .ok (.lst (List.replicate k.toNat a).flatten) w else .stuck
  | _, _, _ => .stuck
def dMod : D → D → Om → Out D
  | .int i, .int j, w => if 0 < j then .ok (.int (i % j)) w else .stuck
  | _, _, _ => .stuck
def dFdiv : D → D → Om → Out D
  | .int i, .int j, w => if 0 < j ∧ j < 1073741824 then .ok (.int (i / j)) w else .stuck
  | _, _, _ => .stuck
def dPow : D → D → Om → Out D
  | .int i, .int j, w => if 0 ≤ j ∧ j ≤ 1000000 ∧ i.natAbs < 2 ^ 64 then .ok (.int (i ^ j.toNat)) w else .stuck
  | _, _, _ => .stuck

section
variable {X : Cx} {T : Tbl} {W : WX} {e a b c : Expr} {f fa fb fc : Sl → Om → Out D} {pos : Pos}
abbrev rAddD (K : PySem.W.Frag) : R2 := fun x y H Q => rI0 (fun i j => .int (i + j)) x y H Q ∨ (∃ i j, x = .str i ∧ y = .str j ∧ i.length + j.length ≤ sizeLine ∧ Q (.str (i ++ j)) H) ∨ rCatA K x y H Q ∨ rCat x y H Q
theorem op_addD : OpR X (binaryOp .Add) (rAddD X.K) := op_add.or (op_add_str.or (op_catA.or op_cat))
theorem od_add : OpD X T W (rAddD X.K) dAdd := by
  intro G O w r s H x y dx dy Q hK hT R px py hs
  unfold dAdd at hs
  split at hs
  · rw [px.int, py.int]
    exact .inl ⟨_, _, rfl, rfl, hs _ H R (TrE.refl _ _ _) (.int _)⟩
  · rw [px.str, py.str]
    split at hs
    · rename_i hl
      exact .inr (.inl ⟨_, _, rfl, rfl, hl, hs _ H R (TrE.refl _ _ _) (.str _)⟩)
    · exact hs.elim
  · split at hs
    · rename_i hl
      obtain ⟨a, xs, rfl, h1, h2, h3⟩ := px.tuple
      obtain ⟨b, ys, rfl, k1, k2, k3⟩ := py.tuple
      rw [← hK]
      refine .inr (.inr (.inl ⟨a, b, xs, ys, rfl, rfl, h1, k1, by rw [h2.length, k2.length]; exact hl, fun e => ?_, fun e e' => ?_, fun _ _ p hp => ?_⟩))
      · subst e
        cases h2
        exact hs _ H R (TrE.refl _ _ _) k3
      · subst e'
        cases k2
        exact hs _ H R (TrE.refl _ _ _) (by rw [List.append_nil]; exact h3)
      · obtain ⟨R1, t1, p1⟩ := new_tup R hp (h2.append k2)
        exact hs _ _ R1 t1 p1
    · exact hs.elim
  · split at hs
    · rename_i hl
      obtain ⟨a, xs, rfl, h1, h2⟩ := px.list
      obtain ⟨b, ys, rfl, k1, k2⟩ := py.list
      refine .inr (.inr (.inr ⟨a, b, xs, ys, rfl, rfl, h1, k1, by rw [h2.length, k2.length]; exact hl, fun p hp => ?_⟩))
      obtain ⟨R1, t1, p1⟩ := new_lst R hp (h2.append k2)
      exact hs _ _ R1 t1 p1
    · exact hs.elim
  · exact hs.elim
theorem od_sub : OpD X T W (rI0 fun i j => .int (i - j)) dSub := by
  intro G O w r s H x y dx dy Q hK hT R px py hs
  unfold dSub at hs
  split at hs
  · rw [px.int, py.int]
    exact ⟨_, _, rfl, rfl, hs _ H R (TrE.refl _ _ _) (.int _)⟩
  · exact hs.elim
theorem Reps.rep {K : PySem.W.Frag} {F : Addr → Prop} {H : Hp} {xs : List V} {l : List D} (h : Reps K F H xs l) : ∀ k : Nat, Reps K F H (List.replicate k xs).flatten (List.replicate k l).flatten
  | 0 => .nil
  | k + 1 => by
    rw [List.replicate_succ, List.replicate_succ, List.flatten_cons, List.flatten_cons]
    exact h.append (Reps.rep h k)
abbrev rMulD : R2 := fun x y H Q => rI CMul (fun i j => .int (i * j)) x y H Q ∨ rRep x y H Q
theorem op_mulD : OpR X (binaryOp .Mult) rMulD := op_mul.or op_rep
theorem od_mul : OpD X T W rMulD dMul := by
  intro G O w r s H x y dx dy Q hK hT R px py hs
  unfold dMul at hs
  split at hs
  · rw [px.int, py.int]
    split at hs
    · rename_i hc
      exact .inl ⟨_, _, rfl, rfl, hc, hs _ H R (TrE.refl _ _ _) (.int _)⟩
    · exact hs.elim
  · split at hs
    · rename_i hc
      obtain ⟨a, xs, rfl, h1, h2⟩ := px.list
      rw [py.int]
      obtain ⟨c1, c2, c3⟩ := hc
      refine .inr ⟨a, _, xs, rfl, rfl, h1, by omega, c2, by rw [h2.length]; exact c3, fun p hp => ?_⟩
      obtain ⟨R1, t1, p1⟩ := new_lst R hp (h2.rep _)
      exact hs _ _ R1 t1 p1
    · exact hs.elim
  · exact hs.elim
theorem od_mod : OpD X T W (rI (fun _ j => 0 < j) fun i j => .int (i % j)) dMod := by
  intro G O w r s H x y dx dy Q hK hT R px py hs
  unfold dMod at hs
  split at hs
  · rw [px.int, py.int]
    split at hs
    · rename_i hc
      exact ⟨_, _, rfl, rfl, hc, hs _ H R (TrE.refl _ _ _) (.int _)⟩
    · exact hs.elim
  · exact hs.elim
theorem od_fdiv : OpD X T W (rI CDiv fun i j => .int (i / j)) dFdiv := by
  intro G O w r s H x y dx dy Q hK hT R px py hs
  unfold dFdiv at hs
  split at hs
  · rw [px.int, py.int]
    split at hs
    · rename_i hc
      exact ⟨_, _, rfl, rfl, hc, hs _ H R (TrE.refl _ _ _) (.int _)⟩
    · exact hs.elim
  · exact hs.elim
theorem od_pow : OpD X T W (rI CPow fun i j => .int (i ^ j.toNat)) dPow := by
  intro G O w r s H x y dx dy Q hK hT R px py hs
  unfold dPow at hs
  split at hs
  · rw [px.int, py.int]
    split at hs
    · rename_i hc
      exact ⟨_, _, rfl, rfl, hc, hs _ H R (TrE.refl _ _ _) (.int _)⟩
    · exact hs.elim
  · exact hs.elim
theorem dx_add (ha : BE X T W a fa) (hb : BE X T W b fb) : DE X T W (.BinOp a .Add b pos) (e2 fa fb dAdd) := dx_2 (te := fun _ t => t) ha hb (fun p q => pe_op op_addD p q) od_add
theorem dx_sub (ha : BE X T W a fa) (hb : BE X T W b fb) : DE X T W (.BinOp a .Sub b pos) (e2 fa fb dSub) := dx_2 (te := fun _ t => t) ha hb (fun p q => pe_op op_sub p q) od_sub
theorem dx_mul (ha : BE X T W a fa) (hb : BE X T W b fb) : DE X T W (.BinOp a .Mult b pos) (e2 fa fb dMul) := dx_2 (te := fun _ t => t) ha hb (fun p q => pe_op op_mulD p q) od_mul
theorem dx_mod (ha : BE X T W a fa) (hb : BE X T W b fb) : DE X T W (.BinOp a .Mod b pos) (e2 fa fb dMod) := dx_2 (te := fun _ t => t) ha hb (fun p q => pe_op op_mod p q) od_mod
theorem dx_fdiv (ha : BE X T W a fa) (hb : BE X T W b fb) : DE X T W (.BinOp a .FloorDiv b pos) (e2 fa fb dFdiv) := dx_2 (te := fun _ t => t) ha hb (fun p q => pe_op op_fdiv p q) od_fdiv
theorem dx_pow (ha : BE X T W a fa) (hb : BE X T W b fb) : DE X T W (.BinOp a .Pow b pos) (e2 fa fb dPow) := dx_2 (te := fun _ t => t) ha hb (fun p q => pe_op op_pow p q) od_pow
end
end DL

set_option Elab.async false
set_option linter.all false
set_option maxRecDepth 100000
set_option maxHeartbeats 1000000
/-! DL4: comparisons, tests, and, or, not, if. -/
namespace DL
open PySem PySem.Spec L2
open PyProof.Rows hiding St

/-- equality of plain scalars -/
def D.eqS : D → D → Option Bool
  | .int i, .int j => some (decide (i = j))
  | .str a, .str b => some (decide (a = b))
  | .bl a, .bl b => some (decide (a = b))
  | .non, .non => some true
  | .non, .int _ => some false
  | .int _, .non => some false
  | .non, .str _ => some false
  | .str _, .non => some false
  | .non, .bl _ => some false
  | .bl _, .non => some false
  | .int _, .str _ => some false
  | .str _, .int _ => some false
  | .bl _, .str _ => some false
  | .str _, .bl _ => some false
  | _, _ => none
def D.eq? (x y : D) : Option Bool := match D.eqS x y with
  | some b => some b
  | none => D.eqv? x y
def ofB (o : Option Bool) (w : Om) : Out D := match o with
  | some b => .ok (.bl b) w
  | none => .stuck
def dEq (x y : D) (w : Om) : Out D := ofB (D.eq? x y) w
def dNe (x y : D) (w : Om) : Out D := ofB ((D.eq? x y).map (!·)) w
def D.ints? : List D → Option (List Int)
  | [] => some []
  | .int i :: r => (D.ints? r).map (i :: ·)
  | _ => none
def D.lt? : D → D → Option Bool
  | .int i, .int j => some (decide (i < j))
  | .tup a, .tup b => match D.ints? a, D.ints? b with
    | some x, some y => some (HT.lexLt x y)
    | _, _ => none
  | _, _ => none
def dLt (x y : D) (w : Om) : Out D := ofB (D.lt? x y) w
def dCmpI (p : Int → Int → Bool) : D → D → Om → Out D
  | .int i, .int j, w => .ok (.bl (p i j)) w
  | _, _, _ => .stuck
abbrev dLe := dCmpI fun i j => decide (i ≤ j)
abbrev dGt := dCmpI fun i j => decide (j < i)
abbrev dGe := dCmpI fun i j => decide (j ≤ i)
/-- x in y -/
def D.flat : D → Option V
  | .non => some .non
  | .bl b => some (.bl b)
  | .int i => some (.int i)
  | .str x => some (.str x)
  | _ => none
def D.flats : List D → Option (List V)
  | [] => some []
  | d :: ds => (D.flat d).bind fun x => (D.flats ds).map (x :: ·)
def D.items : D → Option (List D)
  | .tup l => some l
  | .lst l => some l
  | .fl l => some l
  | _ => none
/-- in a list or tuple of flat things -/
def D.inF (x y : D) : Option Bool := match D.flat x, (D.items y).bind D.flats with
  | some a, some l => some (inV a l)
  | _, _ => none
/-- in a list of any data -/
def D.inL (x y : D) : Option Bool := match y with
  | .lst l => match D.py x, D.pys l with
    | some a, some b => if SeqAt.shaped a = true ∧ SeqAt.shaped (.list b) = true then some (b.any fun z => PyData.eqv z a) else none
    | _, _ => none
  | _ => none
/-- one sign in a text -/
def D.inS (x y : D) : Option Bool := match x, y with
  | .str ⟨a⟩, .str z => match a.toList with
    | [c] => some (decide (c ∈ z.cps.toList))
    | _ => none
  | _, _ => none
def D.in? (x y : D) : Option Bool := match D.inF x y with
  | some b => some b
  | none => match D.inL x y with
    | some b => some b
    | none => D.inS x y
def dIn (x y : D) (w : Om) : Out D := ofB (D.in? x y) w
def dNotIn (x y : D) (w : Om) : Out D := ofB ((D.in? x y).map (!·)) w
def dIsN (x : D) (w : Om) : Out D := match x with
  | .non => .ok (.bl true) w
  | _ => .ok (.bl false) w
def dIs : D → D → Om → Out D
  | x, .non, w => dIsN x w
  | .bl a, .bl b, w => .ok (.bl (decide (a = b))) w
  | _, _, _ => .stuck
def dIsNot : D → D → Om → Out D
  | .non, .non, w => .ok (.bl false) w
  | _, .non, w => .ok (.bl true) w
  | .bl a, .bl b, w => .ok (.bl (!decide (a = b))) w
  | _, _, _ => .stuck

section
variable {X : Cx} {T : Tbl} {W : WX} {e a b c : Expr} {f fa fb fc : Sl → Om → Out D} {g ga gb : Sl → Om → Out Bool} {pos : Pos}
section
variable {G : Gc} {O : List Addr} {w : Om} {H : Hp} {x y : V} {dx dy : D} {v : V}
theorem BRep.scal (px : BRep G O w H x dx) (py : BRep G O w H y dy) {k : Bool} (h : D.eqS dx dy = some k) : L2.scal x y = true ∧ decide (x = y) = k := by
  cases dx <;> cases dy <;> (try (unfold D.eqS at h; cases h; done)) <;> unfold D.eqS at h <;> cases h <;> (try rw [px.int]) <;> (try rw [px.str]) <;> (try rw [px.bl]) <;> (try rw [px.non]) <;> (try rw [py.int]) <;> (try rw [py.str]) <;> (try rw [py.bl]) <;> (try rw [py.non]) <;>
    refine ⟨rfl, ?_⟩ <;> simp
theorem eqv_some {dx dy : D} {k : Bool} (h : D.eqv? dx dy = some k) : ∃ a b, dx.py = some a ∧ dy.py = some b ∧ SeqAt.shaped a = true ∧ SeqAt.shaped b = true ∧ PyData.eqv a b = k := by
  unfold D.eqv? at h
  split at h
  · rename_i a b e1 e2
    split at h
    · rename_i hs
      cases h
      exact ⟨a, b, e1, e2, hs.1, hs.2, rfl⟩
    · cases h
  · cases h
end
abbrev rEqDD (K : PySem.W.Frag) : R2 := fun x y H Q => rEq x y H Q ∨ rEqD K x y H Q
abbrev rNeDD (K : PySem.W.Frag) : R2 := fun x y H Q => rNe x y H Q ∨ rNeD K x y H Q
theorem op_eqDD (hu : X.A.units + 64 < cLine) : OpR X (compareOp .Eq) (rEqDD X.K) := op_eq.or (op_eqD hu)
theorem op_neDD (hu : X.A.units + 64 < cLine) : OpR X (compareOp .NotEq) (rNeDD X.K) := op_ne.or (op_neD hu)
theorem od_eq : OpD X T W (rEqDD X.K) dEq := by
  intro G O w r s H x y dx dy Q hK hT R px py hs
  unfold dEq ofB D.eq? at hs
  cases e : D.eqS dx dy with
  | some k =>
    rw [e] at hs
    obtain ⟨h1, h2⟩ := px.scal py e
    exact .inl ⟨h1, by rw [h2]; exact hs _ H R (TrE.refl _ _ _) (.bl _)⟩
  | none =>
    rw [e] at hs
    cases e2 : D.eqv? dx dy with
    | none =>
      rw [e2] at hs
      exact hs.elim
    | some k =>
      rw [e2] at hs
      obtain ⟨p, q, e3, e4, s1, s2, e5⟩ := eqv_some e2
      refine .inr ⟨p, q, ?_, ?_, s1, s2, ?_⟩
      · rw [← hK]; exact px.dp e3
      · rw [← hK]; exact py.dp e4
      · rw [e5]; exact hs _ H R (TrE.refl _ _ _) (.bl _)
theorem od_ne : OpD X T W (rNeDD X.K) dNe := by
  intro G O w r s H x y dx dy Q hK hT R px py hs
  unfold dNe ofB D.eq? at hs
  cases e : D.eqS dx dy with
  | some k =>
    rw [e] at hs
    obtain ⟨h1, h2⟩ := px.scal py e
    exact .inl ⟨h1, by rw [h2]; exact hs _ H R (TrE.refl _ _ _) (.bl _)⟩
  | none =>
    rw [e] at hs
    cases e2 : D.eqv? dx dy with
    | none =>
      rw [e2] at hs
      exact hs.elim
    | some k =>
      rw [e2] at hs
      obtain ⟨p, q, e3, e4, s1, s2, e5⟩ := eqv_some e2
      refine .inr ⟨p, q, ?_, ?_, s1, s2, ?_⟩
      · rw [← hK]; exact px.dp e3
      · rw [← hK]; exact py.dp e4
      · rw [e5]; exact hs _ H R (TrE.refl _ _ _) (.bl _)
theorem ints_some {K : PySem.W.Frag} {F : Addr → Prop} {H : Hp} : ∀ {l : List D} {xs : List V} {ns : List Int}, Reps K F H xs l → D.ints? l = some ns → xs = ns.map V.int
  | [], _, _, h, e => by
    cases h
    cases e
    rfl
  | d :: ds, _, ns, h, e => by
    cases h with
    | cons h1 h2 =>
      cases d <;> (try (cases e; done))
      unfold D.ints? at e
      obtain ⟨z, e1, e2⟩ := Option.map_eq_some_iff.mp e
      subst e2
      rw [h1.int', ints_some h2 e1]
      rfl
abbrev rLtD (K : PySem.W.Frag) : R2 := fun x y H Q => rI0 (fun i j => .bl (decide (i < j))) x y H Q ∨ rLtT K x y H Q
theorem op_ltD (hu : X.A.units < cLine) : OpR X (compareOp .Lt) (rLtD X.K) := op_lt.or (op_ltT hu)
theorem od_lt : OpD X T W (rLtD X.K) dLt := by
  intro G O w r s H x y dx dy Q hK hT R px py hs
  unfold dLt ofB D.lt? at hs
  cases dx <;> (try exact hs.elim)
  · cases dy <;> (try exact hs.elim)
    rw [px.int, py.int]
    exact .inl ⟨_, _, rfl, rfl, hs _ H R (TrE.refl _ _ _) (.bl _)⟩
  · cases dy <;> (try exact hs.elim)
    rename_i l1 l2
    cases e1 : D.ints? l1 with
    | none => simp only [e1] at hs; exact hs.elim
    | some n1 =>
      cases e2 : D.ints? l2 with
      | none => simp only [e1, e2] at hs; exact hs.elim
      | some n2 =>
        simp only [e1, e2] at hs
        obtain ⟨a, xs, rfl, h1, h2, _⟩ := px.tuple
        obtain ⟨b, ys, rfl, k1, k2, _⟩ := py.tuple
        have ex := ints_some h2 e1
        have ey := ints_some k2 e2
        subst ex ey
        rw [← hK]
        exact .inr ⟨a, b, n1, n2, rfl, rfl, h1, k1, hs _ H R (TrE.refl _ _ _) (.bl _)⟩
theorem od_cmpI {p : Int → Int → Bool} : OpD X T W (rI0 fun i j => .bl (p i j)) (dCmpI p) := by
  intro G O w r s H x y dx dy Q hK hT R px py hs
  unfold dCmpI at hs
  split at hs
  · rw [px.int, py.int]
    exact ⟨_, _, rfl, rfl, hs _ H R (TrE.refl _ _ _) (.bl _)⟩
  · exact hs.elim
section
variable {G : Gc} {O : List Addr} {w : Om} {H : Hp} {x y : V} {dx dy : D} {v : V}
theorem Rep.flat {K : PySem.W.Frag} {F : Addr → Prop} {d : D} (h : Rep K F H x d) (e : D.flat d = some v) : x = v ∧ flatV v = true := by
  cases d <;> (try (cases e; done)) <;> cases e <;> cases h <;> exact ⟨rfl, rfl⟩
theorem BRep.flat (h : BRep G O w H x dx) (e : D.flat dx = some v) : x = v ∧ flatV v = true := by
  rcases h with h | ⟨a, xs, l, e1, e2, m, e3, h⟩
  · exact h.flat e
  · subst e2
    cases e
theorem Reps.flats {K : PySem.W.Frag} {F : Addr → Prop} : ∀ {l : List D} {xs vs : List V}, Reps K F H xs l → D.flats l = some vs → xs = vs ∧ vs.all flatV = true
  | [], _, _, h, e => by
    cases h
    cases e
    exact ⟨rfl, rfl⟩
  | d :: ds, _, _, h, e => by
    cases h with
    | cons h1 h2 =>
      unfold D.flats at e
      obtain ⟨y, e1, e2⟩ := Option.bind_eq_some_iff.mp e
      obtain ⟨ys, e3, e4⟩ := Option.map_eq_some_iff.mp e2
      subst e4
      obtain ⟨p1, p2⟩ := h1.flat e1
      obtain ⟨p3, p4⟩ := Reps.flats h2 e3
      rw [p1, p3]
      refine ⟨rfl, ?_⟩
      rw [List.all_cons, p2, p4]
      rfl
theorem BRep.items (h : BRep G O w H x dx) {l : List D} (e : D.items dx = some l) : ∃ a xs, x = .ref a ∧ (SqL G.K H a xs ∨ SqT G.K H a xs) ∧ Reps G.K (Fx G O w) H xs l := by
  cases dx <;> (try (cases e; done)) <;> cases e
  · obtain ⟨a, xs, h1, h2, h3, _⟩ := h.tuple
    exact ⟨a, xs, h1, .inr h2, h3⟩
  · obtain ⟨a, xs, h1, h2, h3⟩ := h.list
    exact ⟨a, xs, h1, .inl (.inl (.inl h2)), h3⟩
  · obtain ⟨a, xs, h1, h2, h3⟩ := h.flist
    exact ⟨a, xs, h1, .inl h2, h3⟩
end
abbrev rInD3 (K : PySem.W.Frag) : R2 := fun x y H Q => rIn K false x y H Q ∨ rInD K x y H Q ∨ (∃ (c : Nat) (z : Str), x = .str ⟨#[c]⟩ ∧ y = .str z ∧ Q (.bl (decide (c ∈ z.cps.toList))) H)
abbrev rNotInD3 (K : PySem.W.Frag) : R2 := fun x y H Q => rIn K true x y H Q ∨ rNotInD K x y H Q ∨ (∃ (c : Nat) (z : Str), x = .str ⟨#[c]⟩ ∧ y = .str z ∧ Q (.bl (!decide (c ∈ z.cps.toList))) H)
theorem op_inD3 (hu : X.A.units + 65 < cLine) : OpR X (compareOp .In) (rInD3 X.K) := op_in_seq.or ((op_inD hu).or op_in_sign)
theorem op_notInD3 (hu : X.A.units + 65 < cLine) : OpR X (compareOp .NotIn) (rNotInD3 X.K) := op_notIn_seq.or ((op_notInD hu).or op_notIn_sign)
theorem inF_some {dx dy : D} {k : Bool} (h : D.inF dx dy = some k) : ∃ a l m, D.flat dx = some a ∧ D.items dy = some m ∧ D.flats m = some l ∧ inV a l = k := by
  unfold D.inF at h
  split at h
  · rename_i a l e1 e2
    cases h
    obtain ⟨m, e3, e4⟩ := Option.bind_eq_some_iff.mp e2
    exact ⟨a, l, m, e1, e3, e4, rfl⟩
  · cases h
theorem inL_some {dx dy : D} {k : Bool} (h : D.inL dx dy = some k) : ∃ l a b, dy = .lst l ∧ D.py dx = some a ∧ D.pys l = some b ∧ SeqAt.shaped a = true ∧ SeqAt.shaped (.list b) = true ∧ (b.any fun z => PyData.eqv z a) = k := by
  unfold D.inL at h
  cases dy <;> (try (cases h; done))
  rename_i l
  simp only at h
  split at h
  · rename_i a b e1 e2
    split at h
    · rename_i hs
      cases h
      exact ⟨l, a, b, rfl, e1, e2, hs.1, hs.2, rfl⟩
    · cases h
  · cases h
theorem inS_some {dx dy : D} {k : Bool} (h : D.inS dx dy = some k) : ∃ c z, dx = .str ⟨#[c]⟩ ∧ dy = .str z ∧ decide (c ∈ z.cps.toList) = k := by
  unfold D.inS at h
  split at h
  · rename_i a z
    split at h
    · rename_i c e
      cases h
      refine ⟨c, z, ?_, rfl, rfl⟩
      have : a = #[c] := by rw [← Array.toList_inj, e]
      rw [this]
    · cases h
  · cases h
theorem od_in : OpD X T W (rInD3 X.K) dIn := by
  intro G O w r s H x y dx dy Q hK hT R px py hs
  unfold dIn ofB D.in? at hs
  cases e1 : D.inF dx dy with
  | some k =>
    simp only [e1] at hs
    obtain ⟨a, l, m, q1, q2, q3, q4⟩ := inF_some e1
    obtain ⟨p1, p2⟩ := px.flat q1
    obtain ⟨ad, xs, p3, p4, p5⟩ := py.items q2
    obtain ⟨p6, p7⟩ := p5.flats q3
    subst p1 p3 p6
    rw [← hK]
    exact .inl ⟨ad, xs, rfl, p4, p2, p7, by rw [if_neg Bool.false_ne_true, q4]; exact hs _ H R (TrE.refl _ _ _) (.bl _)⟩
  | none =>
    simp only [e1] at hs
    cases e2 : D.inL dx dy with
    | some k =>
      simp only [e2] at hs
      obtain ⟨l, a, b, rfl, q2, q3, q4, q5, q6⟩ := inL_some e2
      refine .inr (.inl ⟨a, b, ?_, ?_, q4, q5, ?_⟩)
      · rw [← hK]; exact px.dp q2
      · rw [← hK]; exact py.dp (by unfold D.py; rw [q3]; rfl)
      · rw [q6]; exact hs _ H R (TrE.refl _ _ _) (.bl _)
    | none =>
      simp only [e2] at hs
      cases e3 : D.inS dx dy with
      | some k =>
        simp only [e3] at hs
        obtain ⟨c, z, rfl, rfl, q⟩ := inS_some e3
        exact .inr (.inr ⟨c, z, px.str, py.str, by rw [q]; exact hs _ H R (TrE.refl _ _ _) (.bl _)⟩)
      | none =>
        simp only [e3] at hs
        exact hs.elim
theorem od_notIn : OpD X T W (rNotInD3 X.K) dNotIn := by
  intro G O w r s H x y dx dy Q hK hT R px py hs
  unfold dNotIn ofB D.in? at hs
  cases e1 : D.inF dx dy with
  | some k =>
    simp only [e1] at hs
    obtain ⟨a, l, m, q1, q2, q3, q4⟩ := inF_some e1
    obtain ⟨p1, p2⟩ := px.flat q1
    obtain ⟨ad, xs, p3, p4, p5⟩ := py.items q2
    obtain ⟨p6, p7⟩ := p5.flats q3
    subst p1 p3 p6
    rw [← hK]
    exact .inl ⟨ad, xs, rfl, p4, p2, p7, by rw [if_pos rfl, q4]; exact hs _ H R (TrE.refl _ _ _) (.bl _)⟩
  | none =>
    simp only [e1] at hs
    cases e2 : D.inL dx dy with
    | some k =>
      simp only [e2] at hs
      obtain ⟨l, a, b, rfl, q2, q3, q4, q5, q6⟩ := inL_some e2
      refine .inr (.inl ⟨a, b, ?_, ?_, q4, q5, ?_⟩)
      · rw [← hK]; exact px.dp q2
      · rw [← hK]; exact py.dp (by unfold D.py; rw [q3]; rfl)
      · rw [q6]; exact hs _ H R (TrE.refl _ _ _) (.bl _)
    | none =>
      simp only [e2] at hs
      cases e3 : D.inS dx dy with
      | some k =>
        simp only [e3] at hs
        obtain ⟨c, z, rfl, rfl, q⟩ := inS_some e3
        exact .inr (.inr ⟨c, z, px.str, py.str, by rw [q]; exact hs _ H R (TrE.refl _ _ _) (.bl _)⟩)
      | none =>
        simp only [e3] at hs
        exact hs.elim
theorem BRep.non_iff {G : Gc} {O : List Addr} {w : Om} {H : Hp} {x : V} {dx : D} (h : BRep G O w H x dx) : decide (x = .non) = (match dx with | .non => true | _ => false) := by
  rcases h with h | ⟨a, xs, l, e1, e2, m, e3, h⟩
  · cases h <;> simp
  · subst e1 e2; simp
abbrev rIsD : R2 := fun x y H Q => (y = .non ∧ Q (.bl (decide (x = .non))) H) ∨ (∃ a b, x = .bl a ∧ y = .bl b ∧ Q (.bl (decide (a = b))) H)
abbrev rIsNotD : R2 := fun x y H Q => (y = .non ∧ Q (.bl (!decide (x = .non))) H) ∨ (∃ a b, x = .bl a ∧ y = .bl b ∧ Q (.bl (!decide (a = b))) H)
theorem op_isD : OpR X (compareOp .Is) rIsD := op_isN.or op_is_bl
theorem op_isNotD : OpR X (compareOp .IsNot) rIsNotD := op_notN.or op_isnot_bl
theorem od_is : OpD X T W rIsD dIs := by
  intro G O w r s H x y dx dy Q hK hT R px py hs
  cases dy <;> (try (cases dx <;> exact hs.elim))
  · refine .inl ⟨py.non, ?_⟩
    rw [px.non_iff]
    cases dx <;> exact hs _ H R (TrE.refl _ _ _) (.bl _)
  · cases dx <;> (try exact hs.elim)
    exact .inr ⟨_, _, px.bl, py.bl, hs _ H R (TrE.refl _ _ _) (.bl _)⟩
theorem od_isNot : OpD X T W rIsNotD dIsNot := by
  intro G O w r s H x y dx dy Q hK hT R px py hs
  cases dy <;> (try (cases dx <;> exact hs.elim))
  · refine .inl ⟨py.non, ?_⟩
    rw [px.non_iff]
    cases dx <;> exact hs _ H R (TrE.refl _ _ _) (.bl _)
  · cases dx <;> (try exact hs.elim)
    exact .inr ⟨_, _, px.bl, py.bl, hs _ H R (TrE.refl _ _ _) (.bl _)⟩

/-! as values and as tests -/
/-- a comparison's rule with its meaning -/
structure CmpD (X : Cx) (T : Tbl) (W : WX) (op : CmpOp) (d : D → D → Om → Out D) : Prop where
  ex : ∃ rr, OpR X (compareOp op) rr ∧ OpD X T W rr d
theorem cd_eq (hu : X.A.units + 64 < cLine) : CmpD X T W .Eq dEq := ⟨_, op_eqDD hu, od_eq⟩
theorem cd_ne (hu : X.A.units + 64 < cLine) : CmpD X T W .NotEq dNe := ⟨_, op_neDD hu, od_ne⟩
theorem cd_lt (hu : X.A.units + 64 < cLine) : CmpD X T W .Lt dLt := ⟨_, op_ltD (by omega), od_lt⟩
theorem cd_le : CmpD X T W .LtE dLe := ⟨_, op_le, od_cmpI⟩
theorem cd_gt : CmpD X T W .Gt dGt := ⟨_, op_gt, od_cmpI⟩
theorem cd_ge : CmpD X T W .GtE dGe := ⟨_, op_ge, od_cmpI⟩
theorem cd_in (hu : X.A.units + 65 < cLine) : CmpD X T W .In dIn := ⟨_, op_inD3 hu, od_in⟩
theorem cd_notIn (hu : X.A.units + 65 < cLine) : CmpD X T W .NotIn dNotIn := ⟨_, op_notInD3 hu, od_notIn⟩
theorem cd_is : CmpD X T W .Is dIs := ⟨_, op_isD, od_is⟩
theorem cd_isNot : CmpD X T W .IsNot dIsNot := ⟨_, op_isNotD, od_isNot⟩
theorem dx_cmp {op : CmpOp} {d : D → D → Om → Out D} (hc : CmpD X T W op d) (ha : BE X T W a fa) (hb : BE X T W b fb) (hm : behindInMarks op b = false := by first | exact nomark _ | rfl) : DE X T W (.Compare a [op] [b] pos) (e2 fa fb d) := by
  obtain ⟨rr, ho, hd⟩ := hc.ex
  exact dx_2 (te := fun _ t => t) ha hb (fun p q => pe_cmpR ho p q hm) hd
/-- a value as a truth -/
def asB (o : Out D) : Out Bool := o.bind fun d w => match d with
  | .bl b => .ok b w
  | _ => .stuck
def tE (f : Sl → Om → Out D) : Sl → Om → Out Bool := fun r w => asB (f r w)
theorem dt_cmp {op : CmpOp} {d : D → D → Om → Out D} (hc : CmpD X T W op d) (ha : BE X T W a fa) (hb : BE X T W b fb) (hm : behindInMarks op b = false := by first | exact nomark _ | rfl) : DT X T W (.Compare a [op] [b] pos) (tE (e2 fa fb d)) := by
  obtain ⟨rr, ho, hd⟩ := hc.ex
  obtain ⟨ta, pa, ha⟩ := ha.run
  obtain ⟨tb, pb, hb⟩ := hb.run
  refine ⟨_, pt_cmpR ho pa pb hm, fun G O w r s H Q hK hT R hs => ?_⟩
  unfold tE asB e2 at hs
  rw [Out.sat_bind, Out.sat_bind] at hs
  refine ha G O w r s H _ hK hT R (hs.mono fun dx w1 hs1 x H1 R1 t1 p1 => ?_)
  rw [Out.sat_bind] at hs1
  refine hb G O w1 r s H1 _ hK hT R1 (hs1.mono fun dy w2 hs2 y H2 R2 t2 p2 => ?_)
  refine hd G O w2 r s H2 x y dx dy _ hK hT R2 (p1.tr R1.toWor t2) p2 (hs2.mono fun d w3 q v H3 R3 t3 p3 => ?_)
  cases d <;> (try exact q.elim)
  exact ⟨_, p3.bl', q H3 R3 ((t1.trans t2).trans t3)⟩
theorem dt_val (h : DE X T W e f) (he : ∀ whole, isTrue e X.env whole = (do let v ← whole; standAt e.pos; holding [v] (truthy v)) := by intro _; rfl) : DT X T W e (tE f) := by
  obtain ⟨te, pe, h⟩ := h.run
  refine ⟨_, pt_val pe he, fun G O w r s H Q hK hT R hs => ?_⟩
  unfold tE asB at hs
  rw [Out.sat_bind] at hs
  refine h G O w r s H _ hK hT R (hs.mono fun d w1 q v H1 R1 t1 p1 => ?_)
  cases d <;> (try exact q.elim)
  exact ⟨_, p1.bl', q H1 R1 t1⟩
/-- truth of any value -/
def D.tru : D → Option Bool
  | .non => some false
  | .bl b => some b
  | .int i => some (i != 0)
  | .str y => if y.length ≤ sizeLine then some ((y.length : Int) != 0) else none
  | .tup l => some (!l.isEmpty)
  | .lst l => some (!l.isEmpty)
  | .fl l => some (!l.isEmpty)
  | .ref _ => none
def tTru (f : Sl → Om → Out D) : Sl → Om → Out Bool := fun r w => (f r w).bind fun d w => match D.tru d with
  | some b => .ok b w
  | none => .stuck
theorem isEmpty_reps {K : PySem.W.Frag} {F : Addr → Prop} {H : Hp} {xs : List V} {l : List D} (h : Reps K F H xs l) : xs.isEmpty = l.isEmpty := by cases h <;> rfl
theorem dt_tru (h : BE X T W e f) (he : ∀ whole, isTrue e X.env whole = (do let v ← whole; standAt e.pos; holding [v] (truthy v)) := by intro _; rfl) : DT X T W e (tTru f) := by
  obtain ⟨te, pe, h⟩ := h.run
  refine ⟨_, pt_truth pe he, fun G O w r s H Q hK hT R hs => ?_⟩
  unfold tTru at hs
  rw [Out.sat_bind] at hs
  refine h G O w r s H _ hK hT R (hs.mono fun d w1 q v H1 R1 t1 p1 => ?_)
  cases e1 : D.tru d with
  | none => rw [e1] at q; exact q.elim
  | some k =>
    rw [e1] at q
    refine ⟨k, ?_, q H1 R1 t1⟩
    rw [← hK]
    cases d <;> (try (cases e1; done))
    · cases e1; rw [p1.non]; rfl
    · cases e1; rw [p1.bl]; rfl
    · cases e1; rw [p1.int]; rfl
    · rename_i y
      have e2 : (if y.length ≤ sizeLine then some ((y.length : Int) != 0) else none) = some k := e1
      by_cases hl : y.length ≤ sizeLine
      · rw [if_pos hl] at e2
        rw [p1.str]
        exact ⟨hl, (Option.some.inj e2).symm⟩
      · rw [if_neg hl] at e2
        cases e2
    · cases e1
      obtain ⟨a, xs, rfl, h1, h2, _⟩ := p1.tuple
      exact .inr (.inl ⟨xs, h1, by rw [isEmpty_reps h2]⟩)
    · cases e1
      obtain ⟨a, xs, rfl, h1, h2⟩ := p1.list
      exact .inl ⟨xs, .inl (.inl h1), by rw [isEmpty_reps h2]⟩
    · cases e1
      obtain ⟨a, xs, rfl, h1, h2⟩ := p1.flist
      exact .inl ⟨xs, h1, by rw [isEmpty_reps h2]⟩
/-! and, or, not: tests -/
structure DW (X : Cx) (T : Tbl) (W : WX) (e : Expr) (f : Sl → Om → Out Bool) : Prop where
  run : ∃ te : TT, PW X e te ∧ ∀ (G : Gc) (O : List Addr) (w : Om) (r : Sl) (s : L2.St) (H : Hp) (Q : Bool → Hp → Prop), G.K = X.K → G.T = T → Rel G O w r s H →
    (f r w).Sat (fun d w' => ∀ H', Rel G O w' r s H' → TrE G w H w' H' → Q d H') (OkX X G W) → te s H Q
theorem DW.dt (h : DW X T W e g) : DT X T W e g := by
  obtain ⟨te, p, h⟩ := h.run
  exact ⟨te, p.pt, h⟩
def tAnd (f g : Sl → Om → Out Bool) : Sl → Om → Out Bool := fun r w => (f r w).bind fun b w => if b = true then g r w else .ok false w
def tOr (f g : Sl → Om → Out Bool) : Sl → Om → Out Bool := fun r w => (f r w).bind fun b w => if b = true then .ok true w else g r w
def tNot (f : Sl → Om → Out Bool) : Sl → Om → Out Bool := fun r w => (f r w).bind fun b w => .ok (!b) w
variable {rest : List Expr}
theorem dw_and1 (h : DT X T W a ga) : DW X T W (.BoolOp .And [a] pos) ga := by
  obtain ⟨te, p, h⟩ := h.run
  exact ⟨te, pw_and1 p, h⟩
theorem dw_or1 (h : DT X T W a ga) : DW X T W (.BoolOp .Or [a] pos) ga := by
  obtain ⟨te, p, h⟩ := h.run
  exact ⟨te, pw_or1 p, h⟩
theorem dw_and (h : DT X T W a ga) (h2 : DW X T W (.BoolOp .And (b :: rest) pos) gb) : DW X T W (.BoolOp .And (a :: b :: rest) pos) (tAnd ga gb) := by
  obtain ⟨ta, pa, h⟩ := h.run
  obtain ⟨tb, pb, h2⟩ := h2.run
  refine ⟨_, pw_and pa pb, fun G O w r s H Q hK hT R hs => ?_⟩
  unfold tAnd at hs
  rw [Out.sat_bind] at hs
  refine h G O w r s H _ hK hT R (hs.mono fun d w1 q H1 R1 t1 => ?_)
  cases d with
  | true =>
    rw [if_pos rfl] at q ⊢
    exact h2 G O w1 r s H1 Q hK hT R1 (q.mono fun d w2 q H2 R2 t2 => q H2 R2 (t1.trans t2))
  | false =>
    rw [if_neg Bool.false_ne_true] at q ⊢
    exact q H1 R1 t1
theorem dw_or (h : DT X T W a ga) (h2 : DW X T W (.BoolOp .Or (b :: rest) pos) gb) : DW X T W (.BoolOp .Or (a :: b :: rest) pos) (tOr ga gb) := by
  obtain ⟨ta, pa, h⟩ := h.run
  obtain ⟨tb, pb, h2⟩ := h2.run
  refine ⟨_, pw_or pa pb, fun G O w r s H Q hK hT R hs => ?_⟩
  unfold tOr at hs
  rw [Out.sat_bind] at hs
  refine h G O w r s H _ hK hT R (hs.mono fun d w1 q H1 R1 t1 => ?_)
  cases d with
  | false =>
    rw [if_neg Bool.false_ne_true] at q ⊢
    exact h2 G O w1 r s H1 Q hK hT R1 (q.mono fun d w2 q H2 R2 t2 => q H2 R2 (t1.trans t2))
  | true =>
    rw [if_pos rfl] at q ⊢
    exact q H1 R1 t1
theorem dt_not (h : DT X T W a ga) : DT X T W (.UnaryOp .Not a pos) (tNot ga) := by
  obtain ⟨ta, pa, h⟩ := h.run
  refine ⟨_, pt_not pa, fun G O w r s H Q hK hT R hs => ?_⟩
  unfold tNot at hs
  rw [Out.sat_bind] at hs
  exact h G O w r s H _ hK hT R (hs.mono fun d w1 q H1 R1 t1 => q H1 R1 t1)
/-! as values: bools -/
def eAnd (f g : Sl → Om → Out D) : Sl → Om → Out D := fun r w => (f r w).bind fun d w => match d with
  | .bl true => g r w
  | .bl false => .ok (.bl false) w
  | _ => .stuck
def eOr (f g : Sl → Om → Out D) : Sl → Om → Out D := fun r w => (f r w).bind fun d w => match d with
  | .bl false => g r w
  | .bl true => .ok (.bl true) w
  | _ => .stuck
def eNot (f : Sl → Om → Out D) : Sl → Om → Out D := fun r w => (f r w).bind fun d w => match d with
  | .bl b => .ok (.bl (!b)) w
  | _ => .stuck
theorem dx_one {op} (h : DE X T W a fa) : DE X T W (.BoolOp op [a] pos) fa := by
  obtain ⟨te, p, h⟩ := h.run
  exact ⟨te, pe_one p, h⟩
theorem dx_and (h : DE X T W a fa) (h2 : DE X T W (.BoolOp .And (b :: rest) pos) fb) : DE X T W (.BoolOp .And (a :: b :: rest) pos) (eAnd fa fb) := by
  obtain ⟨ta, pa, h⟩ := h.run
  obtain ⟨tb, pb, h2⟩ := h2.run
  refine ⟨_, pe_and pa pb, fun G O w r s H Q hK hT R hs => ?_⟩
  unfold eAnd at hs
  rw [Out.sat_bind] at hs
  refine h G O w r s H _ hK hT R (hs.mono fun d w1 q v H1 R1 t1 p1 => ?_)
  cases d <;> (try exact q.elim)
  rename_i k
  refine ⟨k, p1.bl', ?_⟩
  cases k with
  | true => exact h2 G O w1 r s H1 Q hK hT R1 (q.mono fun d w2 q v H2 R2 t2 p2 => q v H2 R2 (t1.trans t2) p2)
  | false => exact q _ H1 R1 t1 (.bl _)
theorem dx_or (h : DE X T W a fa) (h2 : DE X T W (.BoolOp .Or (b :: rest) pos) fb) : DE X T W (.BoolOp .Or (a :: b :: rest) pos) (eOr fa fb) := by
  obtain ⟨ta, pa, h⟩ := h.run
  obtain ⟨tb, pb, h2⟩ := h2.run
  refine ⟨_, pe_or pa pb, fun G O w r s H Q hK hT R hs => ?_⟩
  unfold eOr at hs
  rw [Out.sat_bind] at hs
  refine h G O w r s H _ hK hT R (hs.mono fun d w1 q v H1 R1 t1 p1 => ?_)
  cases d <;> (try exact q.elim)
  rename_i k
  refine ⟨k, p1.bl', ?_⟩
  cases k with
  | false => exact h2 G O w1 r s H1 Q hK hT R1 (q.mono fun d w2 q v H2 R2 t2 p2 => q v H2 R2 (t1.trans t2) p2)
  | true => exact q _ H1 R1 t1 (.bl _)
theorem dx_not (h : DE X T W a fa) : DE X T W (.UnaryOp .Not a pos) (eNot fa) := by
  obtain ⟨ta, pa, h⟩ := h.run
  refine ⟨_, pe_not pa, fun G O w r s H Q hK hT R hs => ?_⟩
  unfold eNot at hs
  rw [Out.sat_bind] at hs
  refine h G O w r s H _ hK hT R (hs.mono fun d w1 q v H1 R1 t1 p1 => ?_)
  cases d <;> (try exact q.elim)
  exact ⟨_, p1.bl', q _ H1 R1 t1 (.bl _)⟩
def eIf (g : Sl → Om → Out Bool) (f f' : Sl → Om → Out D) : Sl → Om → Out D := fun r w => (g r w).bind fun b w => if b = true then f r w else f' r w
theorem dx_ifExp (hc : DT X T W c g) (h : DE X T W a fa) (h2 : DE X T W b fb) : DE X T W (.IfExp c a b pos) (eIf g fa fb) := by
  obtain ⟨tc, pc, hc⟩ := hc.run
  obtain ⟨ta, pa, h⟩ := h.run
  obtain ⟨tb, pb, h2⟩ := h2.run
  refine ⟨_, pe_ifExp pc pa pb, fun G O w r s H Q hK hT R hs => ?_⟩
  unfold eIf at hs
  rw [Out.sat_bind] at hs
  refine hc G O w r s H _ hK hT R (hs.mono fun d w1 q H1 R1 t1 => ?_)
  cases d with
  | true =>
    rw [if_pos rfl] at q ⊢
    exact h G O w1 r s H1 Q hK hT R1 (q.mono fun d w2 q v H2 R2 t2 p2 => q v H2 R2 (t1.trans t2) p2)
  | false =>
    rw [if_neg Bool.false_ne_true] at q ⊢
    exact h2 G O w1 r s H1 Q hK hT R1 (q.mono fun d w2 q v H2 R2 t2 p2 => q v H2 R2 (t1.trans t2) p2)
/-- -a -/
def dNeg : D → Om → Out D
  | .int i, w => .ok (.int (-i)) w
  | _, _ => .stuck
def e1 (f : Sl → Om → Out D) (op : D → Om → Out D) : Sl → Om → Out D := fun r w => (f r w).bind op
theorem dx_neg (h : DE X T W a fa) : DE X T W (.UnaryOp .USub a pos) (e1 fa dNeg) := by
  obtain ⟨ta, pa, h⟩ := h.run
  refine ⟨_, pe_un un_neg pa, fun G O w r s H Q hK hT R hs => ?_⟩
  unfold e1 at hs
  rw [Out.sat_bind] at hs
  refine h G O w r s H _ hK hT R (hs.mono fun d w1 q v H1 R1 t1 p1 => ?_)
  cases d <;> (try exact q.elim)
  exact ⟨_, p1.int', q _ H1 R1 t1 (.int _)⟩
/-- low <= value <= high -/
def eChain (f g h : Sl → Om → Out D) (d d' : D → D → Om → Out D) : Sl → Om → Out D := fun r w => (f r w).bind fun x w => (g r w).bind fun y w => (d x y w).bind fun z w => match z with
  | .bl true => (h r w).bind fun u w => d' y u w
  | .bl false => .ok (.bl false) w
  | _ => .stuck
theorem dx_chain {op op' : CmpOp} {d d' : D → D → Om → Out D} (hc : CmpD X T W op d) (hc' : CmpD X T W op' d') (ha : BE X T W a fa) (hb : BE X T W b fb) (h3 : BE X T W c fc)
    (hm : lastMarks [op, op'] [b, c] = false := by with_unfolding_all rfl) : DE X T W (.Compare a [op, op'] [b, c] pos) (eChain fa fb fc d d') := by
  obtain ⟨rr, ho, hd⟩ := hc.ex
  obtain ⟨rr', ho', hd'⟩ := hc'.ex
  obtain ⟨ta, pa, ha⟩ := ha.run
  obtain ⟨tb, pb, hb⟩ := hb.run
  obtain ⟨tc, pc, h3⟩ := h3.run
  refine ⟨_, pe_chain ho ho' pa pb pc hm, fun G O w r s H Q hK hT R hs => ?_⟩
  unfold eChain at hs
  rw [Out.sat_bind] at hs
  refine ha G O w r s H _ hK hT R (hs.mono fun dx w1 hs1 x H1 R1 t1 p1 => ?_)
  rw [Out.sat_bind] at hs1
  refine hb G O w1 r s H1 _ hK hT R1 (hs1.mono fun dy w2 hs2 y H2 R2 t2 p2 => ?_)
  rw [Out.sat_bind] at hs2
  refine hd G O w2 r s H2 x y dx dy _ hK hT R2 (p1.tr R1.toWor t2) p2 (hs2.mono fun z w3 q v H3 R3 t3 p3 => ?_)
  cases z <;> (try exact q.elim)
  rename_i k
  refine ⟨k, p3.bl', ?_⟩
  cases k with
  | false =>
    rw [if_neg Bool.false_ne_true]
    exact q _ H3 R3 ((t1.trans t2).trans t3) (.bl _)
  | true =>
    rw [if_pos rfl]
    have q : ((fc r w3).bind fun u w => d' dy u w).Sat _ _ := q
    rw [Out.sat_bind] at q
    refine h3 G O w3 r s H3 _ hK hT R3 (q.mono fun du w4 hs4 u H4 R4 t4 p4 => ?_)
    exact hd' G O w4 r s H4 y u dy du Q hK hT R4 ((p2.tr R2.toWor t3).tr R3.toWor t4) p4 (hs4.mono fun d w5 q v H5 R5 t5 p5 => q v H5 R5 ((((t1.trans t2).trans t3).trans t4).trans t5) p5)
theorem dt_chain {op op' : CmpOp} {d d' : D → D → Om → Out D} (hc : CmpD X T W op d) (hc' : CmpD X T W op' d') (ha : BE X T W a fa) (hb : BE X T W b fb) (h3 : BE X T W c fc)
    (hm : lastMarks [op, op'] [b, c] = false := by with_unfolding_all rfl) : DT X T W (.Compare a [op, op'] [b, c] pos) (tE (eChain fa fb fc d d')) := by
  obtain ⟨rr, ho, hd⟩ := hc.ex
  obtain ⟨rr', ho', hd'⟩ := hc'.ex
  obtain ⟨ta, pa, ha⟩ := ha.run
  obtain ⟨tb, pb, hb⟩ := hb.run
  obtain ⟨tc, pc, h3⟩ := h3.run
  refine ⟨_, pt_chain ho ho' pa pb pc hm, fun G O w r s H Q hK hT R hs => ?_⟩
  unfold tE asB eChain at hs
  rw [Out.sat_bind, Out.sat_bind] at hs
  refine ha G O w r s H _ hK hT R (hs.mono fun dx w1 hs1 x H1 R1 t1 p1 => ?_)
  rw [Out.sat_bind] at hs1
  refine hb G O w1 r s H1 _ hK hT R1 (hs1.mono fun dy w2 hs2 y H2 R2 t2 p2 => ?_)
  rw [Out.sat_bind] at hs2
  refine hd G O w2 r s H2 x y dx dy _ hK hT R2 (p1.tr R1.toWor t2) p2 (hs2.mono fun z w3 q v H3 R3 t3 p3 => ?_)
  cases z <;> (try exact q.elim)
  rename_i k
  refine ⟨k, p3.bl', ?_⟩
  cases k with
  | false =>
    rw [if_neg Bool.false_ne_true]
    exact ⟨false, rfl, q H3 R3 ((t1.trans t2).trans t3)⟩
  | true =>
    rw [if_pos rfl]
    have q : ((fc r w3).bind fun u w => d' dy u w).Sat _ _ := q
    rw [Out.sat_bind] at q
    refine h3 G O w3 r s H3 _ hK hT R3 (q.mono fun du w4 hs4 u H4 R4 t4 p4 => ?_)
    refine hd' G O w4 r s H4 y u dy du _ hK hT R4 ((p2.tr R2.toWor t3).tr R3.toWor t4) p4 (hs4.mono fun d w5 q v H5 R5 t5 p5 => ?_)
    cases d <;> (try exact q.elim)
    exact ⟨_, p5.bl', q H5 R5 ((((t1.trans t2).trans t3).trans t4).trans t5)⟩
end
end DL

set_option Elab.async false
set_option linter.all false
set_option maxRecDepth 100000
set_option maxHeartbeats 1000000
/-! DL5: argument lists, displays, built-in calls, subscripts, slices, defs and their calls. -/
namespace DL
open PySem PySem.Spec L2
open PyProof.Rows hiding St

section
variable {X : Cx} {T : Tbl} {W : WX} {e a b c : Expr} {es : List Expr} {f fa fb fc : Sl → Om → Out D} {fs : Sl → Om → Out (List D)} {g : Sl → Om → Out Bool} {pos p : Pos} {x : Str}
/-! ### argument lists -/
def aNil : Sl → Om → Out (List D) := fun _ w => .ok [] w
def aCons (f : Sl → Om → Out D) (g : Sl → Om → Out (List D)) : Sl → Om → Out (List D) := fun r w => (f r w).bind fun d w => (g r w).bind fun ds w => .ok (d :: ds) w
theorem da_nil : DA X T W [] aNil := ⟨_, pa_nil, fun G O w r s H Q hK hT R hs => hs [] H R (TrE.refl _ _ _) .nil⟩
theorem ba_nil : BA X T W [] aNil := ⟨_, pa_nil, fun G O w r s H Q hK hT R hs => hs [] H R (TrE.refl _ _ _) .nil⟩
theorem da_cons (ha : DE X T W e f) (hr : DA X T W es fs) (hs : starEach (e :: es) X.env = (false, eval e X.env) :: starEach es X.env := by rfl) : DA X T W (e :: es) (aCons f fs) := by
  obtain ⟨te, pe, ha⟩ := ha.run
  obtain ⟨ta, pa, hr⟩ := hr.run
  refine ⟨_, pa_cons pe pa hs, fun G O w r s H Q hK hT R hs => ?_⟩
  unfold aCons at hs
  rw [Out.sat_bind] at hs
  refine ha G O w r s H _ hK hT R (hs.mono fun d w1 q v H1 R1 t1 p1 => ?_)
  rw [Out.sat_bind] at q
  exact hr G O w1 r s H1 _ hK hT R1 (q.mono fun ds w2 q vs H2 R2 t2 p2 => q _ H2 R2 (t1.trans t2) (.cons (Rep.tr t2.tr _ _ p1) p2))
theorem ba_cons (ha : BE X T W e f) (hr : BA X T W es fs) (hs : starEach (e :: es) X.env = (false, eval e X.env) :: starEach es X.env := by rfl) : BA X T W (e :: es) (aCons f fs) := by
  obtain ⟨te, pe, ha⟩ := ha.run
  obtain ⟨ta, pa, hr⟩ := hr.run
  refine ⟨_, pa_cons pe pa hs, fun G O w r s H Q hK hT R hs => ?_⟩
  unfold aCons at hs
  rw [Out.sat_bind] at hs
  refine ha G O w r s H _ hK hT R (hs.mono fun d w1 q v H1 R1 t1 p1 => ?_)
  rw [Out.sat_bind] at q
  exact hr G O w1 r s H1 _ hK hT R1 (q.mono fun ds w2 q vs H2 R2 t2 p2 => q _ H2 R2 (t1.trans t2) (.cons (p1.tr R1.toWor t2) p2))
/-! ### displays -/
def eTup (f : Sl → Om → Out (List D)) : Sl → Om → Out D := fun r w => (f r w).bind fun ds w => if ds.length ≤ sizeLine then .ok (.tup ds) w else .stuck
def eLst (f : Sl → Om → Out (List D)) : Sl → Om → Out D := fun r w => (f r w).bind fun ds w => if ds.length ≤ sizeLine then .ok (.lst ds) w else .stuck
theorem dx_tup {k} (h : DA X T W es fs) : DE X T W (.Tuple es k pos) (eTup fs) := by
  obtain ⟨ta, pa, h⟩ := h.run
  refine ⟨_, pe_tup pa, fun G O w r s H Q hK hT R hs => ?_⟩
  unfold eTup at hs
  rw [Out.sat_bind] at hs
  refine h G O w r s H _ hK hT R (hs.mono fun ds w1 q vs H1 R1 t1 p1 => ?_)
  split at q
  · rename_i hl
    refine ⟨by rw [p1.length]; exact hl, fun p hp => ?_⟩
    obtain ⟨R2, t2, p2⟩ := new_tup R1 hp p1
    exact q _ _ R2 (t1.trans t2) p2
  · exact q.elim
theorem dx_lst (h : DA X T W es fs) : DE X T W (.List es pos) (eLst fs) := by
  obtain ⟨ta, pa, h⟩ := h.run
  refine ⟨_, pe_lst pa, fun G O w r s H Q hK hT R hs => ?_⟩
  unfold eLst at hs
  rw [Out.sat_bind] at hs
  refine h G O w r s H _ hK hT R (hs.mono fun ds w1 q vs H1 R1 t1 p1 => ?_)
  split at q
  · rename_i hl
    refine ⟨by rw [p1.length]; exact hl, fun p hp => ?_⟩
    obtain ⟨R2, t2, p2⟩ := new_lst R1 hp p1
    exact q _ _ R2 (t1.trans t2) p2
  · exact q.elim
/-! ### built-in calls -/
/-- what a call's rule must be worth -/
def CalD (X : Cx) (T : Tbl) (W : WX) (rr : List V → Hp → VK → Prop) (op : List D → Om → Out D) : Prop :=
  ∀ (G : Gc) (O : List Addr) (w : Om) (r : Sl) (s : L2.St) (H : Hp) (vs : List V) (ds : List D) (Q : VK), G.K = X.K → G.T = T → Rel G O w r s H → BReps G O w H vs ds →
    (op ds w).Sat (fun d w' => ∀ v H', Rel G O w' r s H' → TrE G w H w' H' → Rep G.K (Fx G O w') H' v d → Q v H') (OkX X G W) → rr vs H Q
def eB (f : Sl → Om → Out (List D)) (op : List D → Om → Out D) : Sl → Om → Out D := fun r w => (f r w).bind op
theorem bx_cal {te : TA → TE} {rr : List V → Hp → VK → Prop} {op : List D → Om → Out D} (ha : BA X T W es fs) (hp : ∀ {ta : TA}, PA X es ta → PE X e (tCB rr ta)) (ho : CalD X T W rr op) : DE X T W e (eB fs op) := by
  obtain ⟨ta, pa, ha⟩ := ha.run
  refine ⟨_, hp pa, fun G O w r s H Q hK hT R hs => ?_⟩
  unfold eB at hs
  rw [Out.sat_bind] at hs
  refine ha G O w r s H _ hK hT R (hs.mono fun ds w1 q vs H1 R1 t1 p1 => ?_)
  exact ho G O w1 r s H1 vs ds Q hK hT R1 p1 (q.mono fun d w2 q v H2 R2 t2 p2 => q v H2 R2 (t1.trans t2) p2)
theorem breps1 {G : Gc} {O : List Addr} {w : Om} {H : Hp} {vs : List V} {d : D} (h : BReps G O w H vs [d]) : ∃ v, vs = [v] ∧ BRep G O w H v d := by
  cases h with
  | cons h1 h2 => cases h2; exact ⟨_, rfl, h1⟩
theorem breps2 {G : Gc} {O : List Addr} {w : Om} {H : Hp} {vs : List V} {d d' : D} (h : BReps G O w H vs [d, d']) : ∃ v v', vs = [v, v'] ∧ BRep G O w H v d ∧ BRep G O w H v' d' := by
  cases h with
  | cons h1 h2 =>
    obtain ⟨v', rfl, h3⟩ := breps1 h2
    exact ⟨_, _, rfl, h1, h3⟩
/-- len -/
def D.len? : D → Option Nat
  | .str z => if z.length ≤ sizeLine then some z.length else none
  | .tup l => some l.length
  | .lst l => some l.length
  | .fl l => some l.length
  | _ => none
def cLen : List D → Om → Out D
  | [d], w => match D.len? d with
    | some n => .ok (.int n) w
    | none => .stuck
  | _, _ => .stuck
abbrev rLenD (K : PySem.W.Frag) : List V → Hp → VK → Prop := fun xs H Q => (∃ p ys, xs = [.ref p] ∧ (SqL K H p ys ∨ SqT K H p ys) ∧ Q (.int ys.length) H) ∨ ∃ z, xs = [.str z] ∧ z.length ≤ sizeLine ∧ Q (.int z.length) H
theorem call_lenD : CallR X (.builtin "len") (rLenD X.K) := CallR.or call_len_seq call_len_str
theorem cd_len : CalD X T W (rLenD X.K) cLen := by
  intro G O w r s H vs ds Q hK hT R hv hs
  unfold cLen at hs
  split at hs
  · rename_i d
    obtain ⟨v, rfl, h⟩ := breps1 hv
    split at hs
    · rename_i n e
      rw [← hK]
      cases d <;> (try (cases e; done))
      · rename_i z
        have e' : (if z.length ≤ sizeLine then some z.length else none) = some n := e
        by_cases hl : z.length ≤ sizeLine
        · rw [if_pos hl] at e'
          cases e'
          rw [h.str]
          exact .inr ⟨z, rfl, hl, hs _ H R (TrE.refl _ _ _) (.int _)⟩
        · rw [if_neg hl] at e'
          cases e'
      · cases e
        obtain ⟨a, xs, rfl, h1, h2, _⟩ := h.tuple
        exact .inl ⟨a, xs, rfl, .inr h1, by rw [h2.length]; exact hs _ H R (TrE.refl _ _ _) (.int _)⟩
      · cases e
        obtain ⟨a, xs, rfl, h1, h2⟩ := h.list
        exact .inl ⟨a, xs, rfl, .inl (.inl (.inl h1)), by rw [h2.length]; exact hs _ H R (TrE.refl _ _ _) (.int _)⟩
      · cases e
        obtain ⟨a, xs, rfl, h1, h2⟩ := h.flist
        exact .inl ⟨a, xs, rfl, .inl h1, by rw [h2.length]; exact hs _ H R (TrE.refl _ _ _) (.int _)⟩
    · exact hs.elim
  · exact hs.elim
theorem dx_len (hg : Gl X "len") (hm : X.mg "len" = none) (ha : BA X T W (e :: es) fs)
    (he : starEach (e :: es) X.env = (false, eval e X.env) :: starEach es X.env := by rfl) (hpl : (backTo pos (starEach es X.env)).any (·.1) = false := by rfl) : DE X T W (.Call (.Name "len" p) (e :: es) [] pos) (eB fs cLen) :=
  bx_cal (te := fun _ _ _ _ => True) ha (fun pa => pe_callB call_lenD hg hm PySem.boot_len pa (he := he) (hpl := hpl)) cd_len
/-- tuple(..), list(..) of a list or tuple -/
def cTuple : List D → Om → Out D
  | [d], w => match D.items d with
    | some l => .ok (.tup l) w
    | none => .stuck
  | _, _ => .stuck
def cList : List D → Om → Out D
  | [d], w => match D.items d with
    | some l => .ok (.lst l) w
    | none => .stuck
  | _, _ => .stuck
theorem cd_tuple : CalD X T W (fun xs H Q => ∃ p ys, xs = [.ref p] ∧ ((SqL X.K H p ys ∧ ∀ l, H l = none → Q (.ref l) (upd H l (.tup ys))) ∨ (SqT X.K H p ys ∧ Q (.ref p) H))) cTuple := by
  intro G O w r s H vs ds Q hK hT R hv hs
  unfold cTuple at hs
  split at hs
  · rename_i d
    obtain ⟨v, rfl, h⟩ := breps1 hv
    rw [← hK]
    cases d <;> (try exact hs.elim)
    · obtain ⟨a, xs, rfl, h1, h2, h3⟩ := h.tuple
      exact ⟨a, xs, rfl, .inr ⟨h1, hs _ H R (TrE.refl _ _ _) h3⟩⟩
    · obtain ⟨a, xs, rfl, h1, h2⟩ := h.list
      refine ⟨a, xs, rfl, .inl ⟨.inl (.inl h1), fun p hp => ?_⟩⟩
      obtain ⟨R1, t1, p1⟩ := new_tup R hp h2
      exact hs _ _ R1 t1 p1
    · obtain ⟨a, xs, rfl, h1, h2⟩ := h.flist
      refine ⟨a, xs, rfl, .inl ⟨h1, fun p hp => ?_⟩⟩
      obtain ⟨R1, t1, p1⟩ := new_tup R hp h2
      exact hs _ _ R1 t1 p1
  · exact hs.elim
theorem cd_list : CalD X T W (fun xs H Q => ∃ p ys, xs = [.ref p] ∧ (SqL X.K H p ys ∨ SqT X.K H p ys) ∧ ∀ l, H l = none → Q (.ref l) (upd H l (.lst ys))) cList := by
  intro G O w r s H vs ds Q hK hT R hv hs
  unfold cList at hs
  split at hs
  · rename_i d
    obtain ⟨v, rfl, h⟩ := breps1 hv
    split at hs
    · rename_i l e
      obtain ⟨a, xs, rfl, h1, h2⟩ := h.items e
      rw [← hK]
      refine ⟨a, xs, rfl, h1, fun p hp => ?_⟩
      obtain ⟨R1, t1, p1⟩ := new_lst R hp h2
      exact hs _ _ R1 t1 p1
    · exact hs.elim
  · exact hs.elim
theorem dx_tupleOf (hg : Gl X "tuple") (hm : X.mg "tuple" = none) (ha : BA X T W (e :: es) fs)
    (he : starEach (e :: es) X.env = (false, eval e X.env) :: starEach es X.env := by rfl) (hpl : (backTo pos (starEach es X.env)).any (·.1) = false := by rfl) : DE X T W (.Call (.Name "tuple" p) (e :: es) [] pos) (eB fs cTuple) :=
  bx_cal (te := fun _ _ _ _ => True) ha (fun pa => pe_callTy call_tuple_of hg hm (by decide +kernel) pa (he := he) (hpl := hpl)) cd_tuple
theorem dx_listOf (hg : Gl X "list") (hm : X.mg "list" = none) (ha : BA X T W (e :: es) fs)
    (he : starEach (e :: es) X.env = (false, eval e X.env) :: starEach es X.env := by rfl) (hpl : (backTo pos (starEach es X.env)).any (·.1) = false := by rfl) : DE X T W (.Call (.Name "list" p) (e :: es) [] pos) (eB fs cList) :=
  bx_cal (te := fun _ _ _ _ => True) ha (fun pa => pe_callTy call_list_of hg hm (by decide +kernel) pa (he := he) (hpl := hpl)) cd_list
/-- int(..) of an int or a bool -/
def cInt : List D → Om → Out D
  | [.int i], w => .ok (.int i) w
  | [.bl b], w => .ok (.int (if b then 1 else 0)) w
  | _, _ => .stuck
theorem cd_int : CalD X T W (fun xs H Q => (∃ i, xs = [.int i] ∧ Q (.int i) H) ∨ ∃ k, xs = [.bl k] ∧ Q (.int (if k then 1 else 0)) H) cInt := by
  intro G O w r s H vs ds Q hK hT R hv hs
  unfold cInt at hs
  split at hs
  · obtain ⟨v, rfl, h⟩ := breps1 hv
    rw [h.int]
    exact .inl ⟨_, rfl, hs _ H R (TrE.refl _ _ _) (.int _)⟩
  · obtain ⟨v, rfl, h⟩ := breps1 hv
    rw [h.bl]
    exact .inr ⟨_, rfl, hs _ H R (TrE.refl _ _ _) (.int _)⟩
  · exact hs.elim
theorem dx_intOf (hg : Gl X "int") (hm : X.mg "int" = none) (ha : BA X T W (e :: es) fs)
    (he : starEach (e :: es) X.env = (false, eval e X.env) :: starEach es X.env := by rfl) (hpl : (backTo pos (starEach es X.env)).any (·.1) = false := by rfl) : DE X T W (.Call (.Name "int" p) (e :: es) [] pos) (eB fs cInt) :=
  bx_cal (te := fun _ _ _ _ => True) ha (fun pa => pe_callTy call_int1 hg hm (by decide +kernel) pa (he := he) (hpl := hpl)) cd_int
/-- sum(..) of a list of ints -/
def cSum : List D → Om → Out D
  | [.lst l], w => match D.ints? l with
    | some ns => .ok (.int ns.sum) w
    | none => .stuck
  | _, _ => .stuck
theorem cd_sum : CalD X T W (rSum X.K) cSum := by
  intro G O w r s H vs ds Q hK hT R hv hs
  unfold cSum at hs
  split at hs
  · obtain ⟨v, rfl, h⟩ := breps1 hv
    split at hs
    · rename_i ns e
      obtain ⟨a, xs, rfl, h1, h2⟩ := h.list
      have ex := ints_some h2 e
      subst ex
      exact ⟨a, ns, rfl, .inl (.inl h1), hs _ H R (TrE.refl _ _ _) (.int _)⟩
    · exact hs.elim
  · exact hs.elim
theorem dx_sum (hc : X.calm = true) (hg : Gl X "sum") (hm : X.mg "sum" = none) (ha : BA X T W (e :: es) fs)
    (he : starEach (e :: es) X.env = (false, eval e X.env) :: starEach es X.env := by rfl) (hpl : (backTo pos (starEach es X.env)).any (·.1) = false := by rfl) : DE X T W (.Call (.Name "sum" p) (e :: es) [] pos) (eB fs cSum) :=
  bx_cal (te := fun _ _ _ _ => True) ha (fun pa => pe_callB (cr_sum hc) hg hm (by decide +kernel) pa (he := he) (hpl := hpl)) cd_sum
/-- isinstance(x, T) -/
def D.ty : D → Option String
  | .non => some "NoneType"
  | .bl _ => some "bool"
  | .int _ => some "int"
  | .str _ => some "str"
  | .tup _ => some "tuple"
  | .lst _ => some "list"
  | .fl _ => some "list"
  | .ref _ => none
theorem BRep.ty {G : Gc} {O : List Addr} {w : Om} {H : Hp} {v : V} {d : D} {t : String} (h : BRep G O w H v d) (e : d.ty = some t) : TyX G.K H v (.type t) := by
  rcases h with h | ⟨a, xs, l, e1, e2, m, e3, h⟩
  · cases h with
    | non => cases e; exact .base .non
    | bl b => cases e; exact .base (.bl _)
    | int i => cases e; exact .base (.int _)
    | str x => cases e; exact .base (.str _)
    | ref a => cases e
    | tup h1 h2 =>
      cases e
      rcases h1 with ⟨h1 | ⟨o, h1⟩, _⟩ | ⟨o, its, n, k1, k2, _⟩
      · exact .base (.tup h1)
      · exact .fTuple h1
      · exact .kTuple k1 k2
    | lst h1 h2 h3 => cases e; exact .base (.lst h1)
    | fl h1 h2 =>
      cases e
      rcases h1 with ⟨h1 | ⟨o, h1⟩, _⟩ | ⟨o, its, n, k1, k2, _⟩
      · exact .base (.lst h1)
      · exact .base (.frz h1)
      · exact .kList k1 k2
  · subst e1 e2
    cases e
    exact .base (.lst e3)
/-- the types that are asked for, decided -/
def tyIs (t u : String) : Option Bool := kitB t u
def cIsi (u : String) (d : D) (w : Om) : Out D := match (D.ty d).bind fun t => tyIs t u with
  | some b => .ok (.bl b) w
  | none => .stuck
theorem ty_int : tyIs "int" "int" = some true ∧ tyIs "bool" "int" = some true ∧ tyIs "str" "int" = some false ∧ tyIs "NoneType" "int" = some false ∧ tyIs "tuple" "int" = some false ∧ tyIs "list" "int" = some false := by decide +kernel
theorem ty_bool : tyIs "int" "bool" = some false ∧ tyIs "bool" "bool" = some true ∧ tyIs "str" "bool" = some false ∧ tyIs "NoneType" "bool" = some false ∧ tyIs "tuple" "bool" = some false ∧ tyIs "list" "bool" = some false := by decide +kernel
theorem ty_str : tyIs "int" "str" = some false ∧ tyIs "bool" "str" = some false ∧ tyIs "str" "str" = some true ∧ tyIs "NoneType" "str" = some false ∧ tyIs "tuple" "str" = some false ∧ tyIs "list" "str" = some false := by decide +kernel
theorem ty_tuple : tyIs "int" "tuple" = some false ∧ tyIs "bool" "tuple" = some false ∧ tyIs "str" "tuple" = some false ∧ tyIs "NoneType" "tuple" = some false ∧ tyIs "tuple" "tuple" = some true ∧ tyIs "list" "tuple" = some false := by decide +kernel
theorem ty_list : tyIs "int" "list" = some false ∧ tyIs "bool" "list" = some false ∧ tyIs "str" "list" = some false ∧ tyIs "NoneType" "list" = some false ∧ tyIs "tuple" "list" = some false ∧ tyIs "list" "list" = some true := by decide +kernel
theorem cIsi_some {u : String} {d : D} {w : Om} {P : D → Om → Prop} {E : Exn → Sl → Om → Prop} (h : (cIsi u d w).Sat P E) : ∃ t b, d.ty = some t ∧ tyIs t u = some b ∧ P (.bl b) w := by
  unfold cIsi at h
  split at h
  · rename_i b e
    obtain ⟨t, h1, h2⟩ := Option.bind_eq_some_iff.mp e
    exact ⟨t, b, h1, h2, h⟩
  · exact h.elim
theorem dx_isi (u : String) {uN : Str} {p2 : Pos} (hg : Gl X "isinstance") (hm : X.mg "isinstance" = none) (hg2 : Gl X uN) (hm2 : X.mg uN = none) (hu : bootBuiltins uN = some (.type u)) (ha : BE X T W a fa)
    (hn : uN ≠ "__name__" := by decide) (hd : (uN == ("__debug__" : Str)) = false := by decide)
    (he : starEach [a, .Name uN p2] X.env = (false, eval a X.env) :: starEach [.Name uN p2] X.env := by rfl) (hpl : (backTo pos (starEach [.Name uN p2] X.env)).any (·.1) = false := by rfl)
    (he2 : starEach [.Name uN p2] X.env = (false, eval (.Name uN p2) X.env) :: starEach [] X.env := by rfl) :
    DE X T W (.Call (.Name "isinstance" p) [a, .Name uN p2] [] pos) (e1 fa (cIsi u)) := by
  obtain ⟨ta, pa, ha⟩ := ha.run
  refine ⟨_, pe_callB call_isi hg hm (by decide +kernel) (pa_cons pa (pa_cons (pe_bltn (v := .ty u) hg2 hm2 hu rfl hn hd) pa_nil he2) he) (he := he) (hpl := hpl), fun G O w r s H Q hK hT R hs => ?_⟩
  unfold e1 at hs
  rw [Out.sat_bind] at hs
  refine ha G O w r s H _ hK hT R (hs.mono fun d w1 q v H1 R1 t1 p1 => ?_)
  obtain ⟨t, b, h1, h2, h3⟩ := cIsi_some q
  refine ⟨v, .ty u, .type t, .type u, b, rfl, .ty u, ?_, kit_ty h2, h3 _ H1 R1 t1 (.bl _)⟩
  rw [← hK]
  exact p1.ty h1
/-- isinstance(x, (T, U)) -/
def cIsi2 (u v : String) (d : D) (w : Om) : Out D := match (D.ty d).bind fun t => tyIs t u, (D.ty d).bind fun t => tyIs t v with
  | some b, some c => .ok (.bl (b || c)) w
  | _, _ => .stuck
theorem dx_isi2 (u v : String) {uN vN : Str} {k} {p2 p3 p4 : Pos} (hg : Gl X "isinstance") (hm : X.mg "isinstance" = none) (hg2 : Gl X uN) (hm2 : X.mg uN = none) (hu : bootBuiltins uN = some (.type u)) (hg3 : Gl X vN) (hm3 : X.mg vN = none) (hv : bootBuiltins vN = some (.type v)) (ha : BE X T W a fa)
    (hn : uN ≠ "__name__" := by decide) (hd : (uN == ("__debug__" : Str)) = false := by decide) (hn3 : vN ≠ "__name__" := by decide) (hd3 : (vN == ("__debug__" : Str)) = false := by decide)
    (he : starEach [a, .Tuple [.Name uN p2, .Name vN p3] k p4] X.env = (false, eval a X.env) :: starEach [.Tuple [.Name uN p2, .Name vN p3] k p4] X.env := by rfl) (hpl : (backTo pos (starEach [.Tuple [.Name uN p2, .Name vN p3] k p4] X.env)).any (·.1) = false := by rfl)
    (he2 : starEach [.Tuple [.Name uN p2, .Name vN p3] k p4] X.env = (false, eval (.Tuple [.Name uN p2, .Name vN p3] k p4) X.env) :: starEach [] X.env := by rfl)
    (he3 : starEach [.Name uN p2, .Name vN p3] X.env = (false, eval (.Name uN p2) X.env) :: starEach [.Name vN p3] X.env := by rfl) (he4 : starEach [.Name vN p3] X.env = (false, eval (.Name vN p3) X.env) :: starEach [] X.env := by rfl) :
    DE X T W (.Call (.Name "isinstance" p) [a, .Tuple [.Name uN p2, .Name vN p3] k p4] [] pos) (e1 fa (cIsi2 u v)) := by
  obtain ⟨ta, pa, ha⟩ := ha.run
  refine ⟨_, pe_callB call_isiT hg hm (by decide +kernel) (pa_cons pa (pa_cons (pe_tup (pa_cons (pe_bltn (v := .ty u) hg2 hm2 hu rfl hn hd) (pa_cons (pe_bltn (v := .ty v) hg3 hm3 hv rfl hn3 hd3) pa_nil he4) he3)) pa_nil he2) he) (he := he) (hpl := hpl), fun G O w r s H Q hK hT R hs => ?_⟩
  unfold e1 at hs
  rw [Out.sat_bind] at hs
  refine ha G O w r s H _ hK hT R (hs.mono fun d w1 q x H1 R1 t1 p1 => ?_)
  unfold cIsi2 at q
  split at q
  · rename_i b c e1 e2
    obtain ⟨t, h1, h2⟩ := Option.bind_eq_some_iff.mp e1
    obtain ⟨t', h1', h3⟩ := Option.bind_eq_some_iff.mp e2
    rw [h1] at h1'
    cases h1'
    refine ⟨(by show 2 ≤ sizeLine; decide), fun tp htp => ?_⟩
    obtain ⟨R2, t2⟩ := R1.new (o := .tup [.ty u, .ty v]) htp
    refine ⟨x, tp, [.ty u, .ty v], .type t, [.type u, .type v], (b || c), rfl, upd_same, .cons (.ty u) (.cons (.ty v) .nil), ?_, ?_, q _ _ R2 (t1.trans t2) (.bl _)⟩
    · rw [← hK]
      exact (p1.tr R1.toWor t2).ty h1
    · refine kitAny_cons (b := b) (kit_ty h2) (fun eb => ?_) (fun eb => by rw [eb]; rfl)
      refine kitAny_cons (b := c) (kit_ty h3) (fun ec => ?_) (fun ec => by rw [eb, ec]; rfl)
      rw [eb, ec]
      rfl
  · exact q.elim
/-! ### subscripts, slices -/
def dIx : D → D → Om → Out D
  | .str z, .int i, w => if z.length ≤ sizeLine then (match atI z.cps.toList i with
    | some c => .ok (.str ⟨#[c]⟩) w
    | none => .stuck) else .stuck
  | .tup l, .int i, w => (match atI l i with
    | some d => .ok d w
    | none => .stuck)
  | .lst l, .int i, w => (match atI l i with
    | some d => .ok d w
    | none => .stuck)
  | .fl l, .int i, w => (match atI l i with
    | some d => .ok d w
    | none => .stuck)
  | _, _, _ => .stuck
theorem Reps.at {K : PySem.W.Frag} {F : Addr → Prop} {H : Hp} {xs : List V} {l : List D} {i : Int} {d : D} (h : Reps K F H xs l) (e : atI l i = some d) : ∃ v, atI xs i = some v ∧ Rep K F H v d := by
  unfold atI at e ⊢
  rw [h.length]
  obtain ⟨j, e1, e2⟩ := Option.bind_eq_some_iff.mp e
  obtain ⟨v, h1, h2⟩ := h.get e2
  exact ⟨v, by rw [e1]; exact h1, h2⟩
theorem od_ix : OpD X T W (rIx X.K) dIx := by
  intro G O w r s H x y dx dy Q hK hT R px py hs
  unfold dIx at hs
  rw [← hK]
  split at hs
  · split at hs
    · rename_i hl
      split at hs
      · rename_i c e
        rw [px.str, py.int]
        exact .inr (.inr ⟨_, _, c, rfl, rfl, hl, e, hs _ H R (TrE.refl _ _ _) (.str _)⟩)
      · exact hs.elim
    · exact hs.elim
  · split at hs
    · rename_i d e
      obtain ⟨a, xs, rfl, h1, h2, _⟩ := px.tuple
      obtain ⟨v, h3, h4⟩ := h2.at e
      rw [py.int]
      exact .inr (.inl ⟨a, xs, _, v, rfl, rfl, h1, h3, hs _ H R (TrE.refl _ _ _) h4⟩)
    · exact hs.elim
  · split at hs
    · rename_i d e
      obtain ⟨a, xs, rfl, h1, h2⟩ := px.list
      obtain ⟨v, h3, h4⟩ := h2.at e
      rw [py.int]
      exact .inl ⟨a, xs, _, v, rfl, rfl, .inl (.inl h1), h3, hs _ H R (TrE.refl _ _ _) h4⟩
    · exact hs.elim
  · split at hs
    · rename_i d e
      obtain ⟨a, xs, rfl, h1, h2⟩ := px.flist
      obtain ⟨v, h3, h4⟩ := h2.at e
      rw [py.int]
      exact .inl ⟨a, xs, _, v, rfl, rfl, h1, h3, hs _ H R (TrE.refl _ _ _) h4⟩
    · exact hs.elim
  · exact hs.elim
theorem dx_ix (ha : BE X T W a fa) (hb : BE X T W b fb) (hp : PlainIx b := by exact fun _ _ => rfl) : DE X T W (.Subscript a b pos) (e2 fa fb dIx) :=
  dx_2 (te := fun _ t => t) ha hb (fun p q => pe_ix ix_seq p q hp) od_ix
/-- a slice's part -/
structure DO (X : Cx) (T : Tbl) (W : WX) (e : Option Expr) (f : Sl → Om → Out (Option Int)) : Prop where
  run : ∃ te : TO, PO X e te ∧ ∀ (G : Gc) (O : List Addr) (w : Om) (r : Sl) (s : L2.St) (H : Hp) (Q : Option Int → Hp → Prop), G.K = X.K → G.T = T → Rel G O w r s H →
    (f r w).Sat (fun d w' => ∀ H', Rel G O w' r s H' → TrE G w H w' H' → Q d H') (OkX X G W) → te s H Q
def oNone : Sl → Om → Out (Option Int) := fun _ w => .ok none w
def oSome (f : Sl → Om → Out D) : Sl → Om → Out (Option Int) := fun r w => (f r w).bind fun d w => match d with
  | .int i => .ok (some i) w
  | _ => .stuck
theorem do_none : DO X T W none oNone := ⟨_, po_none, fun G O w r s H Q hK hT R hs => hs H R (TrE.refl _ _ _)⟩
theorem do_some (h : DE X T W e f) : DO X T W (some e) (oSome f) := by
  obtain ⟨te, pe, h⟩ := h.run
  refine ⟨_, po_some pe, fun G O w r s H Q hK hT R hs => ?_⟩
  unfold oSome at hs
  rw [Out.sat_bind] at hs
  refine h G O w r s H _ hK hT R (hs.mono fun d w1 q v H1 R1 t1 p1 => ?_)
  cases d <;> (try exact q.elim)
  exact ⟨_, p1.int', q H1 R1 t1⟩
def cutD (l : List D) (lo hi : Option Int) : List D := (l.drop (HT.sIx l.length 0 lo)).take (HT.sIx l.length l.length hi - HT.sIx l.length 0 lo)
def dCut (d : D) (lo hi : Option Int) (w : Om) : Out D := match d with
  | .lst l => .ok (.lst (cutD l lo hi)) w
  | .fl l => .ok (.lst (cutD l lo hi)) w
  | .tup l => .ok (.tup (cutD l lo hi)) w
  | .str z => if z.length ≤ sizeLine then .ok (.str (cutS z lo hi)) w else .stuck
  | _ => .stuck
def eCut (f : Sl → Om → Out D) (lo hi : Sl → Om → Out (Option Int)) : Sl → Om → Out D := fun r w => (f r w).bind fun d w => (lo r w).bind fun l w => (hi r w).bind fun h w => dCut d l h w
abbrev rSlD (K : PySem.W.Frag) : V → Option Int → Option Int → Hp → VK → Prop := fun x lo hi H Q => rSlL K x lo hi H Q ∨ rSlA K x lo hi H Q ∨ rSlS x lo hi H Q
theorem sl_D : SlR X (rSlD X.K) := sl_list.or (sl_tupA.or sl_str)
theorem Reps.cut {K : PySem.W.Frag} {F : Addr → Prop} {H : Hp} {xs : List V} {l : List D} (h : Reps K F H xs l) (lo hi : Option Int) : Reps K F H (cutV xs lo hi) (cutD l lo hi) := by
  unfold cutV cutD
  rw [h.length]
  exact (h.drop _).take _
theorem dx_cut {lo hi : Option Expr} {fl fh : Sl → Om → Out (Option Int)} {p2 : Pos} (ha : BE X T W a fa) (hl : DO X T W lo fl) (hh : DO X T W hi fh) : DE X T W (.Subscript a (.Slice lo hi none p2) pos) (eCut fa fl fh) := by
  obtain ⟨ta, pa, ha⟩ := ha.run
  obtain ⟨tl, pl, hl⟩ := hl.run
  obtain ⟨th, ph, hh⟩ := hh.run
  refine ⟨_, pe_slice sl_D pa pl ph, fun G O w r s H Q hK hT R hs => ?_⟩
  unfold eCut at hs
  rw [Out.sat_bind] at hs
  refine ha G O w r s H _ hK hT R (hs.mono fun d w1 q v H1 R1 t1 p1 => ?_)
  rw [Out.sat_bind] at q
  refine hl G O w1 r s H1 _ hK hT R1 (q.mono fun lo w2 q H2 R2 t2 => ?_)
  rw [Out.sat_bind] at q
  refine hh G O w2 r s H2 _ hK hT R2 (q.mono fun hi w3 q H3 R3 t3 => ?_)
  have p3 := (p1.tr R1.toWor t2).tr R2.toWor t3
  have t := (t1.trans t2).trans t3
  unfold dCut at q
  rw [← hK]
  cases d <;> (try exact q.elim)
  · simp only at q
    split at q
    · rename_i hz
      rw [p3.str]
      exact .inr (.inr ⟨_, rfl, hz, q _ H3 R3 t (.str _)⟩)
    · exact q.elim
  · rename_i l _ _
    obtain ⟨a, xs, rfl, h1, h2, h3⟩ := p3.tuple
    refine .inr (.inl ⟨a, xs, rfl, h1, fun hw => ?_, fun _ p hp => ?_⟩)
    · refine q _ H3 R3 t ?_
      have e1 : cutD l lo hi = l := by
        unfold cutD
        rw [← h2.length, hw.1, hw.2, List.drop_zero, Nat.sub_zero, h2.length, List.take_length]
      rw [e1]
      exact h3
    · obtain ⟨R4, t4, p4⟩ := new_tup R3 hp (h2.cut lo hi)
      exact q _ _ R4 (t.trans t4) p4
  · obtain ⟨a, xs, rfl, h1, h2⟩ := p3.list
    refine .inl ⟨a, xs, rfl, .inl (.inl h1), fun p hp => ?_⟩
    obtain ⟨R4, t4, p4⟩ := new_lst R3 hp (h2.cut lo hi)
    exact q _ _ R4 (t.trans t4) p4
  · obtain ⟨a, xs, rfl, h1, h2⟩ := p3.flist
    refine .inl ⟨a, xs, rfl, h1, fun p hp => ?_⟩
    obtain ⟨R4, t4, p4⟩ := new_lst R3 hp (h2.cut lo hi)
    exact q _ _ R4 (t.trans t4) p4
/-! ### names of the module -/
theorem dx_glob {u : Value} {v : V} {d : D} (hg : Gl X x) (hm : X.mg x = some u) (hr : RelV v u) (hrep : ∀ F H, Rep X.K F H v d) (hd : (x == ("__debug__" : Str)) = false := by decide) : DE X T W (.Name x pos) (eC d) :=
  ⟨_, pe_glob hg hm hr hd, fun G O w r s H Q hK hT R hs => hs v H R (TrE.refl _ _ _) (by rw [hK]; exact hrep _ _)⟩
end
end DL

set_option Elab.async false
set_option linter.all false
set_option maxRecDepth 100000
set_option maxHeartbeats 1000000
/-! DL6: statements. -/
namespace DL
open PySem PySem.Spec L2
open PyProof.Rows hiding St

/-! ### what a name may be given -/
/-- a value given to a name: plain data, or a list that nobody else holds -/
def SRep (G : Gc) (O O' : List Addr) (w : Om) (H : Hp) (v : V) : Slot → Prop
  | .no => True
  | .p d => Rep G.K (Fx G O' w) H v d
  | .o l => ∃ a xs, v = .ref a ∧ a ∈ O' ∧ a ∉ O ∧ H a = some (.lst xs) ∧ Reps G.K (Fx G O' w) H xs l
structure SE (X : Cx) (T : Tbl) (W : WX) (e : Expr) (f : Sl → Om → Out Slot) : Prop where
  run : ∃ te : TE, PE X e te ∧ ∀ (G : Gc) (O : List Addr) (w : Om) (r : Sl) (s : L2.St) (H : Hp) (Q : VK), G.K = X.K → G.T = T → Rel G O w r s H →
    (f r w).Sat (fun d w' => ∀ v O' H', Rel G O' w' r s H' → (∀ a ∈ O, a ∈ O') → (∀ a ∈ O', a ∈ O ∨ H a = none ∨ Fx G O w a) → TrE G w H w' H' → SRep G O O' w' H' v d → Q v H') (OkX X G W) → te s H Q

section
variable {G : Gc} {O O' : List Addr} {w w' : Om} {H H' : Hp} {r : Sl} {s : L2.St}
theorem Slots.set_p {K : PySem.W.Frag} {F : Addr → Prop} {v : V} {d : D} (hv : Rep K F H v d) : ∀ {O : List Addr} {s : L2.St} {r : Sl} (i : Nat), Slots K F H O s r → O.Nodup → ∃ O', O'.Nodup ∧ (∀ b ∈ O', b ∈ O) ∧ Slots K F H O' (s.set i (some v)) (r.set i (.p d))
  | _, _, _, _, .nil, n => ⟨_, n, fun _ h => h, .nil⟩
  | _, _, _, 0, .no h, n => ⟨_, n, fun _ h => h, .p hv h⟩
  | _, _, _, 0, .p _ h, n => ⟨_, n, fun _ h => h, .p hv h⟩
  | _, _, _, 0, .o _ _ h, n => ⟨_, (List.nodup_cons.mp n).2, fun _ h => List.mem_cons_of_mem _ h, .p hv h⟩
  | _, _, _, i + 1, .no h, n => by
    obtain ⟨O', n', sub, h'⟩ := Slots.set_p hv i h n
    exact ⟨O', n', sub, .no h'⟩
  | _, _, _, i + 1, .p h0 h, n => by
    obtain ⟨O', n', sub, h'⟩ := Slots.set_p hv i h n
    exact ⟨O', n', sub, .p h0 h'⟩
  | _, _, _, i + 1, .o h0 h1 h, n => by
    obtain ⟨O', n', sub, h'⟩ := Slots.set_p hv i h (List.nodup_cons.mp n).2
    refine ⟨_ :: O', List.nodup_cons.mpr ⟨fun z => (List.nodup_cons.mp n).1 (sub _ z), n'⟩, fun b hb => ?_, .o h0 h1 h'⟩
    rcases List.mem_cons.mp hb with z | z
    · rw [z]; exact List.mem_cons_self ..
    · exact List.mem_cons_of_mem _ (sub b z)
theorem Slots.set_no {K : PySem.W.Frag} {F : Addr → Prop} {v : Option V} : ∀ {O : List Addr} {s : L2.St} {r : Sl} (i : Nat), Slots K F H O s r → O.Nodup → ∃ O', O'.Nodup ∧ (∀ b ∈ O', b ∈ O) ∧ Slots K F H O' (s.set i v) (r.set i .no)
  | _, _, _, _, .nil, n => ⟨_, n, fun _ h => h, .nil⟩
  | _, _, _, 0, .no h, n => ⟨_, n, fun _ h => h, .no h⟩
  | _, _, _, 0, .p _ h, n => ⟨_, n, fun _ h => h, .no h⟩
  | _, _, _, 0, .o _ _ h, n => ⟨_, (List.nodup_cons.mp n).2, fun _ h => List.mem_cons_of_mem _ h, .no h⟩
  | _, _, _, i + 1, .no h, n => by
    obtain ⟨O', n', sub, h'⟩ := Slots.set_no i h n
    exact ⟨O', n', sub, .no h'⟩
  | _, _, _, i + 1, .p h0 h, n => by
    obtain ⟨O', n', sub, h'⟩ := Slots.set_no i h n
    exact ⟨O', n', sub, .p h0 h'⟩
  | _, _, _, i + 1, .o h0 h1 h, n => by
    obtain ⟨O', n', sub, h'⟩ := Slots.set_no i h (List.nodup_cons.mp n).2
    refine ⟨_ :: O', List.nodup_cons.mpr ⟨fun z => (List.nodup_cons.mp n).1 (sub _ z), n'⟩, fun b hb => ?_, .o h0 h1 h'⟩
    rcases List.mem_cons.mp hb with z | z
    · rw [z]; exact List.mem_cons_self ..
    · exact List.mem_cons_of_mem _ (sub b z)
theorem Slots.set_o {K : PySem.W.Frag} {F : Addr → Prop} {a : Addr} {xs : List V} {l : List D} (ha : H a = some (.lst xs)) (hx : Reps K F H xs l) : ∀ {O : List Addr} {s : L2.St} {r : Sl} (i : Nat), Slots K F H O s r → O.Nodup → a ∉ O →
    ∃ O', O'.Nodup ∧ (∀ b ∈ O', b = a ∨ b ∈ O) ∧ Slots K F H O' (s.set i (some (.ref a))) (r.set i (.o l))
  | _, _, _, _, .nil, n, _ => ⟨_, n, fun _ h => .inr h, .nil⟩
  | _, _, _, 0, .no h, n, na => ⟨a :: _, List.nodup_cons.mpr ⟨na, n⟩, fun b hb => List.mem_cons.mp hb, .o ha hx h⟩
  | _, _, _, 0, .p _ h, n, na => ⟨a :: _, List.nodup_cons.mpr ⟨na, n⟩, fun b hb => List.mem_cons.mp hb, .o ha hx h⟩
  | _, _, _, 0, .o _ _ h, n, na => ⟨a :: _, List.nodup_cons.mpr ⟨fun z => na (List.mem_cons_of_mem _ z), (List.nodup_cons.mp n).2⟩, fun b hb => (List.mem_cons.mp hb).imp id fun z => List.mem_cons_of_mem _ z, .o ha hx h⟩
  | _, _, _, i + 1, .no h, n, na => by
    obtain ⟨O', n', sub, h'⟩ := Slots.set_o ha hx i h n na
    exact ⟨O', n', sub, .no h'⟩
  | _, _, _, i + 1, .p h0 h, n, na => by
    obtain ⟨O', n', sub, h'⟩ := Slots.set_o ha hx i h n na
    exact ⟨O', n', sub, .p h0 h'⟩
  | _, _, _, i + 1, .o h0 h1 h, n, na => by
    obtain ⟨O', n', sub, h'⟩ := Slots.set_o ha hx i h (List.nodup_cons.mp n).2 (fun z => na (List.mem_cons_of_mem _ z))
    refine ⟨_ :: O', List.nodup_cons.mpr ⟨fun z => ?_, n'⟩, fun b hb => ?_, .o h0 h1 h'⟩
    · rcases sub _ z with q | q
      · exact na (by rw [← q]; exact List.mem_cons_self ..)
      · exact (List.nodup_cons.mp n).1 q
    · rcases List.mem_cons.mp hb with z | z
      · rw [z]; exact .inr (List.mem_cons_self ..)
      · exact (sub b z).imp id fun q => List.mem_cons_of_mem _ q
/-- a value stored at a name -/
theorem Rel.set_p {v : V} {d : D} (R : Rel G O w r s H) (i : Nat) (h : Rep G.K (Fx G O w) H v d) : Rel G O w (r.set i (.p d)) (s.set i (some v)) H := by
  obtain ⟨O1, n, sub, hs⟩ := R.slots
  obtain ⟨O2, n2, sub2, hs2⟩ := hs.set_p h i n
  exact ⟨R.toWor, O2, n2, fun a m => sub a (sub2 a m), hs2⟩
theorem Rel.set_no {v : Option V} (R : Rel G O w r s H) (i : Nat) : Rel G O w (r.set i .no) (s.set i v) H := by
  obtain ⟨O1, n, sub, hs⟩ := R.slots
  obtain ⟨O2, n2, sub2, hs2⟩ := hs.set_no (v := v) i n
  exact ⟨R.toWor, O2, n2, fun a m => sub a (sub2 a m), hs2⟩
end

/-! ### outcomes of statements -/
inductive Res where
  | nx (r : Sl)
  | rt (d : D)
  | bk (r : Sl)
  | ct (r : Sl)
def OkS (G : Gc) (O : List Addr) (w : Om) (H : Hp) (D : Ends) : Res → Om → Prop := fun res w' => match res with
  | .nx r' => ∀ O' s' H', Rel G O' w' r' s' H' → Tr (Fx G O w) H (Fx G O' w') H' → D.nx s' H'
  | .bk r' => ∀ O' s' H', Rel G O' w' r' s' H' → Tr (Fx G O w) H (Fx G O' w') H' → D.bk s' H'
  | .ct r' => ∀ O' s' H', Rel G O' w' r' s' H' → Tr (Fx G O w) H (Fx G O' w') H' → D.ct s' H'
  | .rt d => ∀ v H', Wor G [] w' H' → Rep G.K (Fx G [] w') H' v d → D.rt v H'
structure DS (X : Cx) (T : Tbl) (W : WX) (st : Stmt) (g : Sl → Om → Out Res) : Prop where
  run : ∃ ts : TS, PS X st ts ∧ ∀ (G : Gc) (O : List Addr) (w : Om) (r : Sl) (s : L2.St) (H : Hp) (D : Ends), G.K = X.K → G.T = T → Rel G O w r s H → (g r w).Sat (OkS G O w H D) (OkX X G W) → ts D s H
structure DSs (X : Cx) (T : Tbl) (W : WX) (st : List Stmt) (g : Sl → Om → Out Res) : Prop where
  run : ∃ ts : TS, PSs X st ts ∧ ∀ (G : Gc) (O : List Addr) (w : Om) (r : Sl) (s : L2.St) (H : Hp) (D : Ends), G.K = X.K → G.T = T → Rel G O w r s H → (g r w).Sat (OkS G O w H D) (OkX X G W) → ts D s H

section
variable {G : Gc} {O O' : List Addr} {w w' : Om} {H H' : Hp} {r r' : Sl} {s : L2.St} {D : Ends}
theorem Wor.drop (W : Wor G O w H) (O' : List Addr) (hs : ∀ a ∈ O', a ∈ O) (n : O'.Nodup) : Wor G O' w H where
  keep := fun a o e k t => let ⟨h1, h2, h3⟩ := W.keep a o e k t; ⟨h1, h2, fun z => h3 (hs a z)⟩
  tabs := W.tabs
  wok := fun a m e => (W.wok a m e).tr (tr_sub fun b hb => hb.imp (hs b) id) fun o q => q
  odis := ⟨n, fun a m => W.odis.2 a (hs a m)⟩
  wdis := W.wdis
  xsome := W.xsome
  osome := fun a m => W.osome a (hs a m)
  ltabs := W.ltr (tr_sub fun b hb => hb.imp (hs b) id) fun _ _ => rfl
theorem Wor.bare (W : Wor G O w H) : Wor G [] w H := W.drop [] (fun _ z => nomatch z) List.nodup_nil
theorem fx_bare {a : Addr} (h : Fx G [] w a) : Fx G O w a := h.imp (fun z => nomatch z) id
theorem BRep.bare {v : V} {d : DL.D} (W : Wor G O w H) (h : BRep G O w H v d) : Rep G.K (Fx G [] w) H v d := by
  have t : Tr (Fx G O w) H (Fx G [] w) H := tr_sub fun a z => fx_bare z
  rcases h with h | ⟨a, xs, l, e1, e2, m, e3, h⟩
  · exact Rep.tr t _ _ h
  · subst e1 e2
    refine .lst e3 (fun z => ?_) (Reps.tr t _ _ h)
    obtain ⟨d1, d2, d3⟩ := W.odis.2 a m
    rcases z with z | z | z | z
    · exact nomatch z
    · exact z d1
    · exact d3 z
    · exact d2 z
/-- what is wanted behind a first step, wanted from the start -/
theorem OkS.trans {g : Out Res} {P : Exn → Sl → Om → Prop} (t : Tr (Fx G O w) H (Fx G O' w') H') (h : g.Sat (OkS G O w H D) P) : g.Sat (OkS G O' w' H' D) P :=
  h.mono fun res w2 q => by
    cases res with
    | nx r' => exact fun O2 s2 H2 R2 t2 => q O2 s2 H2 R2 (t.trans t2)
    | bk r' => exact fun O2 s2 H2 R2 t2 => q O2 s2 H2 R2 (t.trans t2)
    | ct r' => exact fun O2 s2 H2 R2 t2 => q O2 s2 H2 R2 (t.trans t2)
    | rt d => exact q
end
section
variable {X : Cx} {T : Tbl} {W : WX} {e a b c : Expr} {st : Stmt} {sts rest : List Stmt} {f fa fb fc : Sl → Om → Out D} {fs : Sl → Om → Out (List D)} {t : Sl → Om → Out Bool} {g h : Sl → Om → Out Res} {pos p : Pos} {x : Str}
def sNil : Sl → Om → Out Res := fun r w => .ok (.nx r) w
def sCons (g h : Sl → Om → Out Res) : Sl → Om → Out Res := fun r w => (g r w).bind fun res w => match res with
  | .nx r' => h r' w
  | res => .ok res w
theorem dss_nil : DSs X T W [] sNil := ⟨_, pss_nil, fun G O w r s H D hK hT R hs => hs O s H R (Tr.refl _ _)⟩
theorem dss_cons (h1 : DS X T W st g) (h2 : DSs X T W rest h) : DSs X T W (st :: rest) (sCons g h) := by
  obtain ⟨t1, p1, h1⟩ := h1.run
  obtain ⟨t2, p2, h2⟩ := h2.run
  refine ⟨_, pss_cons p1 p2, fun G O w r s H D hK hT R hs => ?_⟩
  unfold sCons at hs
  rw [Out.sat_bind] at hs
  refine h1 G O w r s H _ hK hT R (hs.mono fun res w1 q => ?_)
  cases res with
  | nx r' => exact fun O1 s1 H1 R1 tr1 => h2 G O1 w1 r' s1 H1 D hK hT R1 (OkS.trans tr1 q)
  | rt d => exact q
  | bk r' => exact q
  | ct r' => exact q
theorem dss_one (h1 : DS X T W st g) : DSs X T W [st] g := by
  obtain ⟨t1, p1, h1⟩ := h1.run
  exact ⟨_, pss_one p1, h1⟩
def sPass : Sl → Om → Out Res := fun r w => .ok (.nx r) w
theorem ds_pass : DS X T W (.Pass pos) sPass := ⟨_, ps_pass, fun G O w r s H D hK hT R hs => hs O s H R (Tr.refl _ _)⟩
theorem ds_break : DS X T W (.Break pos) (fun r w => .ok (.bk r) w) := ⟨_, ps_break, fun G O w r s H D hK hT R hs => hs O s H R (Tr.refl _ _)⟩
theorem ds_continue : DS X T W (.Continue pos) (fun r w => .ok (.ct r) w) := ⟨_, ps_continue, fun G O w r s H D hK hT R hs => hs O s H R (Tr.refl _ _)⟩
def sExpr (f : Sl → Om → Out D) : Sl → Om → Out Res := fun r w => (f r w).bind fun _ w => .ok (.nx r) w
theorem ds_expr (he : BE X T W e f) (hs : swapsWith e none pos.line X.env = pure false := by rfl) : DS X T W (.Expr e pos) (sExpr f) := by
  obtain ⟨te, pe, he⟩ := he.run
  refine ⟨_, ps_expr pe hs, fun G O w r s H D hK hT R hs => ?_⟩
  unfold sExpr at hs
  rw [Out.sat_bind] at hs
  exact he G O w r s H _ hK hT R (hs.mono fun d w1 q v H1 R1 t1 p1 => q O s H1 R1 t1.tr)
def sRet (f : Sl → Om → Out D) : Sl → Om → Out Res := fun r w => (f r w).bind fun d w => .ok (.rt d) w
theorem ds_ret (he : BE X T W e f) : DS X T W (.Return (some e) pos) (sRet f) := by
  obtain ⟨te, pe, he⟩ := he.run
  refine ⟨_, ps_ret pe, fun G O w r s H D hK hT R hs => ?_⟩
  unfold sRet at hs
  rw [Out.sat_bind] at hs
  exact he G O w r s H _ hK hT R (hs.mono fun d w1 q v H1 R1 t1 p1 => q v H1 R1.toWor.bare (p1.bare R1.toWor))
def sRetN : Sl → Om → Out Res := fun _ w => .ok (.rt .non) w
theorem ds_retN : DS X T W (.Return none pos) sRetN := ⟨_, ps_retN, fun G O w r s H D hK hT R hs => hs .non H R.toWor.bare .non⟩
/-- code that is never come to -/
def sNever : Sl → Om → Out Res := fun _ _ => .stuck
theorem ds_never : DS X T W st sNever := ⟨_, ps_never, fun G O w r s H D hK hT R hs => hs.elim⟩
theorem dss_never : DSs X T W sts sNever := ⟨_, pss_never, fun G O w r s H D hK hT R hs => hs.elim⟩
def sIf (t : Sl → Om → Out Bool) (g h : Sl → Om → Out Res) : Sl → Om → Out Res := fun r w => (t r w).bind fun b w => if b = true then g r w else h r w
theorem ds_if {A B : List Stmt} (hc : DT X T W c t) (ha : DSs X T W A g) (hb : DSs X T W B h) : DS X T W (.If c A B pos) (sIf t g h) := by
  obtain ⟨tc, pc, hc⟩ := hc.run
  obtain ⟨ta, pa, ha⟩ := ha.run
  obtain ⟨tb, pb, hb⟩ := hb.run
  refine ⟨_, ps_if pc pa pb, fun G O w r s H D hK hT R hs => ?_⟩
  unfold sIf at hs
  rw [Out.sat_bind] at hs
  refine hc G O w r s H _ hK hT R (hs.mono fun d w1 q H1 R1 t1 => ?_)
  cases d with
  | true =>
    rw [if_pos rfl] at q ⊢
    exact ha G O w1 r s H1 D hK hT R1 (OkS.trans t1.tr q)
  | false =>
    rw [if_neg Bool.false_ne_true] at q ⊢
    exact hb G O w1 r s H1 D hK hT R1 (OkS.trans t1.tr q)
/-! names -/
def seP (f : Sl → Om → Out D) : Sl → Om → Out Slot := fun r w => (f r w).bind fun d w => .ok (.p d) w
theorem se_p (h : DE X T W e f) : SE X T W e (seP f) := by
  obtain ⟨te, pe, h⟩ := h.run
  refine ⟨te, pe, fun G O w r s H Q hK hT R hs => ?_⟩
  unfold seP at hs
  rw [Out.sat_bind] at hs
  exact h G O w r s H Q hK hT R (hs.mono fun d w1 q v H1 R1 t1 p1 => q v O H1 R1 (fun _ h => h) (fun _ h => .inl h) t1 p1)
/-- a list just laid becomes a name's own -/
theorem Rel.own {G : Gc} {O : List Addr} {w : Om} {H : Hp} {r : Sl} {s : L2.St} {p : Addr} {xs : List V} (R : Rel G O w r s H) (hp : H p = none) : Rel G (p :: O) w r s (upd H p (.lst xs)) ∧ Tr (Fx G O w) H (Fx G (p :: O) w) (upd H p (.lst xs)) := by
  have t : Tr (Fx G O w) H (Fx G (p :: O) w) (upd H p (.lst xs)) := fun a o e n => by
    have ne : a ≠ p := ne_of_none e hp
    refine ⟨by rw [upd_ne ne]; exact e, fun z => ?_⟩
    rcases z with z | z
    · rcases List.mem_cons.mp z with z | z
      · exact ne z
      · exact n (.inl z)
    · exact n (.inr z)
  have st : ∀ a o, H a = some o → upd H p (.lst xs) a = some o := fun a o e => by rw [upd_ne (ne_of_none e hp)]; exact e
  have hw : w p = none := by
    cases q : w p with
    | none => rfl
    | some m => exact absurd hp (R.fsome (.inr (.inl (by rw [q]; simp))))
  have hT : p ∉ G.T := fun z => R.fsome (.inr (.inr (.inr z))) hp
  have hX : ¬ G.Xs p := fun z => R.fsome (.inr (.inr (.inl z))) hp
  have hO : p ∉ O := fun z => R.fsome (.inl z) hp
  obtain ⟨O1, n1, sub, hs⟩ := R.slots
  refine ⟨⟨⟨fun a o e k tt => ?_, fun P hP => ?_, fun a m e => (R.wok a m e).tr t fun o q => st a o q, ⟨List.nodup_cons.mpr ⟨hO, R.odis.1⟩, fun a m => ?_⟩, R.wdis, fun a x z => ?_, fun a m z => ?_, R.ltr t fun P hP => upd_ne fun z => hT (z ▸ hP)⟩, O1, n1, fun a m => List.mem_cons_of_mem _ (sub a m), hs.tr t fun a m o e => st a o e⟩, t⟩
  · obtain ⟨h1, h2, h3⟩ := R.keep a o e k tt
    refine ⟨st a o h1, h2, fun z => ?_⟩
    rcases List.mem_cons.mp z with z | z
    · rw [z, hp] at h1; cases h1
    · exact h3 z
  · obtain ⟨ps, e, tt⟩ := R.tabs P hP
    exact ⟨ps, st _ _ e, tt⟩
  · rcases List.mem_cons.mp m with z | z
    · rw [z]; exact ⟨hw, hT, hX⟩
    · exact R.odis.2 a z
  · have := R.xsome a x
    cases q : H a with
    | none => exact this q
    | some o => rw [st a o q] at z; cases z
  · rcases List.mem_cons.mp m with y | y
    · rw [y, upd_same] at z; cases z
    · have := R.osome a y
      cases q : H a with
      | none => exact this q
      | some o => rw [st a o q] at z; cases z
theorem own_new {G : Gc} {O : List Addr} {w w' : Om} {H H' : Hp} {p : Addr} (t : TrE G w H w' H') (hp : H' p = none) : ∀ a ∈ p :: O, a ∈ O ∨ H a = none ∨ Fx G O w a := fun a m => by
  rcases List.mem_cons.mp m with z | z
  · rw [z]
    cases q : H p with
    | none => exact .inr (.inl rfl)
    | some o =>
      by_cases hw : w p = none
      · by_cases hT : p ∈ G.T
        · exact .inr (.inr (.inr (.inr (.inr hT))))
        · rw [(t p o q hw hT).1] at hp; cases hp
      · exact .inr (.inr (.inr (.inl hw)))
  · exact .inl z
/-- a display, kept as the name's own -/
def seL (f : Sl → Om → Out (List D)) : Sl → Om → Out Slot := fun r w => (f r w).bind fun ds w => if ds.length ≤ sizeLine then .ok (.o ds) w else .stuck
theorem se_lst {es : List Expr} (h : DA X T W es fs) : SE X T W (.List es pos) (seL fs) := by
  obtain ⟨ta, pa, h⟩ := h.run
  refine ⟨_, pe_lst pa, fun G O w r s H Q hK hT R hs => ?_⟩
  unfold seL at hs
  rw [Out.sat_bind] at hs
  refine h G O w r s H _ hK hT R (hs.mono fun ds w1 q vs H1 R1 t1 p1 => ?_)
  split at q
  · rename_i hl
    refine ⟨by rw [p1.length]; exact hl, fun p hp => ?_⟩
    obtain ⟨R2, t2⟩ := R1.own (xs := vs) hp
    refine q _ (p :: O) _ R2 (fun a m => List.mem_cons_of_mem _ m) (own_new t1 hp) (t1.trans (tre_ext (new_ext hp))) ⟨p, vs, rfl, List.mem_cons_self .., fun z => R1.osome p z hp, upd_same, Reps.tr t2 _ _ p1⟩
  · exact q.elim
/-- list(..), kept as the name's own -/
def seLs (f : Sl → Om → Out (List D)) : Sl → Om → Out Slot := fun r w => (f r w).bind fun ds w => match ds with
  | [d] => (match D.items d with
    | some l => .ok (.o l) w
    | none => .stuck)
  | _ => .stuck
theorem se_list {es : List Expr} (hg : Gl X "list") (hm : X.mg "list" = none) (ha : BA X T W (e :: es) fs)
    (he : starEach (e :: es) X.env = (false, eval e X.env) :: starEach es X.env := by rfl) (hpl : (backTo pos (starEach es X.env)).any (·.1) = false := by rfl) : SE X T W (.Call (.Name "list" p) (e :: es) [] pos) (seLs fs) := by
  obtain ⟨ta, pa, ha⟩ := ha.run
  refine ⟨_, pe_callTy call_list_of hg hm (by decide +kernel) pa (he := he) (hpl := hpl), fun G O w r s H Q hK hT R hs => ?_⟩
  unfold seLs at hs
  rw [Out.sat_bind] at hs
  refine ha G O w r s H _ hK hT R (hs.mono fun ds w1 q vs H1 R1 t1 p1 => ?_)
  split at q
  · rename_i d
    obtain ⟨v, rfl, h⟩ := breps1 p1
    split at q
    · rename_i l e
      obtain ⟨a, xs, rfl, h1, h2⟩ := h.items e
      rw [← hK]
      refine ⟨a, xs, rfl, h1, fun p hp => ?_⟩
      obtain ⟨R2, t2⟩ := R1.own (xs := xs) hp
      exact q _ (p :: O) _ R2 (fun a m => List.mem_cons_of_mem _ m) (own_new t1 hp) (t1.trans (tre_ext (new_ext hp))) ⟨p, xs, rfl, List.mem_cons_self .., fun z => R1.osome p z hp, upd_same, Reps.tr t2 _ _ h2⟩
    · exact q.elim
  · exact q.elim
theorem fx_grow {G : Gc} {O O' : List Addr} {w : Om} (h : ∀ a ∈ O, a ∈ O') {a : Addr} (z : Fx G O w a) : Fx G O' w a := z.imp (h a) id
theorem Slots.fn {K K' : PySem.W.Frag} {F F' : Addr → Prop} {H H' : Hp} : ∀ {O O' : List Addr} {s : L2.St} {r : Sl}, Slots K F H O s r → Slots K' F' H' O' s r → O = O'
  | _, _, _, _, .nil, h => by cases h; rfl
  | _, _, _, _, .no h1, h => by cases h with | no h2 => exact Slots.fn h1 h2
  | _, _, _, _, .p _ h1, h => by cases h with | p _ h2 => exact Slots.fn h1 h2
  | _, _, _, _, .o _ _ h1, h => by cases h with | o _ _ h2 => rw [Slots.fn h1 h2]
/-- a slot given to the i-th name -/
theorem Rel.give {G : Gc} {O O' : List Addr} {w w0 : Om} {H H0 : Hp} {r : Sl} {s : L2.St} {v : V} {sl : Slot} (R0 : Rel G O w0 r s H0) (R : Rel G O' w r s H) (i : Nat) (h : SRep G O O' w H v sl) :
    Rel G O' w (r.set i sl) (s.set i (some v)) H := by
  cases sl with
  | no => exact R.set_no i
  | p d => exact R.set_p i h
  | o l =>
    obtain ⟨a, xs, rfl, m, na, e, hx⟩ := h
    obtain ⟨O0, n0, sub0, hs0⟩ := R0.slots
    obtain ⟨O1, n, sub, hs⟩ := R.slots
    have e1 : O0 = O1 := hs0.fn hs
    subst e1
    obtain ⟨O2, n2, sub2, hs2⟩ := hs.set_o e hx i n fun z => na (sub0 a z)
    refine ⟨R.toWor, O2, n2, fun b mb => ?_, hs2⟩
    rcases sub2 b mb with z | z
    · rw [z]; exact m
    · exact sub b z
/-- the way from a state to a later one with more owned lists -/
theorem TrE.grow {G : Gc} {O O' : List Addr} {w w' : Om} {H H' : Hp} (t : TrE G w H w' H') (n : ∀ a ∈ O', a ∈ O ∨ H a = none ∨ Fx G O w a) : Tr (Fx G O w) H (Fx G O' w') H' := fun a o e z => by
  obtain ⟨e1, z1⟩ := t.tr (O := O) a o e z
  refine ⟨e1, fun q => ?_⟩
  rcases q with q | q
  · rcases n a q with q | q | q
    · exact z1 (.inl q)
    · rw [e] at q; cases q
    · exact z q
  · exact z1 (.inr q)
def sAsg (i : Nat) (f : Sl → Om → Out Slot) : Sl → Om → Out Res := fun r w => (f r w).bind fun d w => .ok (.nx (r.set i d)) w
section
variable {X : Cx} {T : Tbl} {W : WX} {e a b c : Expr} {st : Stmt} {sts rest : List Stmt} {f fa fb fc : Sl → Om → Out D} {fs : Sl → Om → Out (List D)} {t : Sl → Om → Out Bool} {g h : Sl → Om → Out Res} {pos p : Pos} {x : Str}
theorem ds_set {i : Nat} {fe : Sl → Om → Out Slot} {pos' : Pos} (he : SE X T W e fe) (hN : X.N.Nodup) (hi : X.N[i]? = some x := by rfl) (hx : Loc X.env.scope x := by first | exact .inl rfl | exact .inr rfl) (hs : swapsWith e (some (.Name x pos')) pos.line X.env = pure false := by rfl)
    (hf : X.fn x = true ∨ X.env.scope.names.lookup x = some .local := by first | exact .inl rfl | exact .inr rfl) : DS X T W (.Assign [.Name x pos'] e pos) (sAsg i fe) := by
  obtain ⟨te, pe, he⟩ := he.run
  refine ⟨_, ps_set (i := i) hN hi hx pe hs hf, fun G O w r s H D hK hT R hs => ?_⟩
  unfold sAsg at hs
  rw [Out.sat_bind] at hs
  exact he G O w r s H _ hK hT R (hs.mono fun d w1 q v O1 H1 R1 sub new t1 p1 => q O1 _ H1 (R.give R1 i p1) (t1.grow new))
end
end
end DL

set_option Elab.async false
set_option linter.all false
set_option maxRecDepth 100000
set_option maxHeartbeats 2000000
/-! DL7: what is walked: lists, tuples, ranges, zip and enumerate over lists and tuples. -/
namespace DL
open PySem PySem.Spec L2
open PyProof.Rows hiding St

/-- k: a tuple, else a list -/
def SqK (K : PySem.W.Frag) (k : Bool) (H : Hp) (a : Addr) (xs : List V) : Prop := match k with
  | true => SqT K H a xs
  | false => SqL K H a xs
def SrcH (k : Bool) (h : Heap) (a : Addr) (its : Array Value) : Prop := match k with
  | true => h.IsTuple a its
  | false => h.IsList a its
def ItH (k : Bool) (h : Heap) (it a : Addr) (i : Nat) : Prop := match k with
  | true => h.IsTupleIter it a i
  | false => h.IsListIter it a i
def itO (k : Bool) (a : Addr) : Obj := match k with
  | true => { cls := .type "tuple_iterator", data := .fields #[.ref a, .int 0 0] }
  | false => { cls := .type "list_iterator", data := .fields #[.ref a, .int 0 0] }
theorem draws_k {prog : Program} {w : World} {A : Around} (k : Bool) (hh : A.handled = none) (it a : Addr) (hne : a ≠ it) (its : Array Value) :
    Draws prog w A it [it, a] its.size (fun i v => its[i]? = some v) (fun i h => ItH k h it a i ∧ SrcH k h a its) := by
  cases k
  · exact Draws.list hh it a hne its
  · exact Draws.tuple hh it a hne its
theorem begins_k (k : Bool) (a : Addr) (its : Array Value) : Begins (.ref a) (itO k a) fun h => SrcH k h a its := by
  cases k
  · exact begins_list a its
  · exact begins_tuple a its
theorem itH_new {k : Bool} {h : Heap} {it a : Addr} (e : h.get? it = some (itO k a)) : ItH k h it a 0 := by
  cases k
  · exact ⟨_, e, rfl, rfl⟩
  · exact ⟨_, e, rfl, rfl⟩
theorem itH_keep {k : Bool} {h h' : Heap} {it a : Addr} {i : Nat} (x : ItH k h it a i) (e : ∀ o, h.get? it = some o → h'.get? it = some o) : ItH k h' it a i := by
  cases k
  · obtain ⟨o, h1, h2⟩ := x; exact ⟨o, e o h1, h2⟩
  · obtain ⟨o, h1, h2⟩ := x; exact ⟨o, e o h1, h2⟩
theorem itH_obj {k : Bool} {h : Heap} {it a : Addr} {i : Nat} (x : ItH k h it a i) : ∃ o, h.get? it = some o ∧ ∀ v, o.data ≠ .cell v := by
  cases k
  · obtain ⟨o, h1, h2, h3⟩ := x; exact ⟨o, h1, fun v z => by rw [h3] at z; cases z⟩
  · obtain ⟨o, h1, h2, h3⟩ := x; exact ⟨o, h1, fun v z => by rw [h3] at z; cases z⟩
theorem srcH_lt {k : Bool} {h : Heap} {a : Addr} {its : Array Value} (x : SrcH k h a its) : a < h.objs.size := by
  cases k
  · obtain ⟨o, h1, _⟩ := x; exact Heap.lt_size h1
  · obtain ⟨o, h1, _⟩ := x; exact Heap.lt_size h1
section
variable {X : Cx} {pins : List (Addr × Obj)} {σ : L2.St} {H : Hp} {s : Shared} {a : Addr} {xs ys : List V} {k : Bool}
theorem inv_sq (I : Inv X pins σ H s) (h : SqK X.K k H a xs) : ∃ its : List Value, Vals xs its ∧ SrcH k s.heap a its.toArray := by
  cases k
  · obtain ⟨its, r, p, _⟩ := I.list h
    exact ⟨its, r, p.isList⟩
  · obtain ⟨its, r, p, _⟩ := I.tuple h
    exact ⟨its, r, p⟩
theorem inv_inj (I : Inv X pins σ H s) (h : SqK X.K k H a xs) (h' : SqK X.K k H a ys) : xs = ys := by
  cases k
  · exact I.list_inj h h'
  · exact I.tuple_inj h h'
end

/-- pairs of the items of two things -/
def ItZ (K : PySem.W.Frag) (j k : Bool) (a b : Addr) : It :=
  ⟨fun i H => ∃ xs ys x y, SqK K j H a xs ∧ SqK K k H b ys ∧ xs[i]? = some x ∧ ys[i]? = some y,
   fun i H v H' => ∃ T x y, v = .ref T ∧ H T = none ∧ H' = upd H T (.tup [x, y]) ∧ (∀ xs, SqK K j H a xs → xs[i]? = some x) ∧ ∀ ys, SqK K k H b ys → ys[i]? = some y,
   fun i H => ∃ xs ys, SqK K j H a xs ∧ SqK K k H b ys ∧ i = min xs.length ys.length⟩
def zipT (j k : Bool) (a b : Addr) (N : Nat) (i : Nat) (h : Heap) : Prop :=
  IsZip h (N + 4) (N + 2) (N + 3) .none ∧ IsTupOf2 h (N + 2) (.ref N) (.ref (N + 1)) ∧ (∃ a1 a2, IsTupOf2 h (N + 3) a1 a2) ∧ ItH j h N a i ∧ ItH k h (N + 1) b i
theorem mem5 {N c : Nat} (h : c ∈ ([N + 4, N + 2, N + 3, N, N + 1] : List Addr)) : c = N + 4 ∨ c = N + 2 ∨ c = N + 3 ∨ c = N ∨ c = N + 1 := by simpa using h
theorem turn_zipK {P : Program} {w : World} {K : PySem.W.Frag} {elts : List Expr} {kk : Nat} {tpos : Pos} {j k : Bool} {a b : Addr} {N : Nat} (ha : a < N) (hb : b < N) :
    Turn P w K (.Tuple elts kk tpos) (ItZ K j k a b) [N + 4, N + 2, N + 3, N, N + 1] (N + 4) (zipT j k a b N) where
  mem := by simp
  obj := fun i h st c hc => by
    obtain ⟨hz, hTI, ⟨x, y, hTO⟩, h1, h2⟩ := st
    rcases mem5 hc with q | q | q | q | q
    · rw [q]; exact ⟨_, hz, fun v z => nomatch z⟩
    · rw [q]; exact ⟨_, hTI, fun v z => nomatch z⟩
    · rw [q]; exact ⟨_, hTO, fun v z => nomatch z⟩
    · rw [q]; exact itH_obj h1
    · rw [q]; exact itH_obj h2
  keep := fun i h h' st kp => by
    obtain ⟨hz, hTI, ⟨x, y, hTO⟩, h1, h2⟩ := st
    exact ⟨kp _ (by simp) _ hz, kp _ (by simp) _ hTI, ⟨x, y, kp _ (by simp) _ hTO⟩, itH_keep h1 (kp _ (by simp)), itH_keep h2 (kp _ (by simp))⟩
  item := by
    intro X hP hw hK hc i pins s σ H E I hf st hg
    subst hP hw hK
    obtain ⟨hz, hTI, hTO, h1, h2⟩ := st
    obtain ⟨xs, ys, x, y, hqx, hqy, hx, hy⟩ := hg
    obtain ⟨its, rv, p1⟩ := inv_sq I hqx
    obtain ⟨its2, rv2, p2⟩ := inv_sq I hqy
    obtain ⟨u, hu, ru⟩ := rv.get hx
    obtain ⟨u2, hu2, ru2⟩ := rv2.get hy
    have hh : X.A.in1.handled = none := I.ok.hd hc
    have S := zip_sep2 (N := N) (fp1 := [a]) (fp2 := [b]) (fun c m => by rw [List.mem_singleton.mp m]; exact ha) (fun c m => by rw [List.mem_singleton.mp m]; exact hb)
    have G := GoesN.zip2 (prog := X.prog) (w := X.w) (A := X.A) (elts := elts) (x1 := kk) (pos := tpos) S (draws_k j hh N a (Nat.ne_of_lt ha) its.toArray) (draws_k k hh (N + 1) b (Nat.ne_of_lt (Nat.lt_succ_of_lt hb)) its2.toArray)
    have i1 : i < its.toArray.size := by
      have := (List.getElem?_eq_some_iff.mp hu).1
      simpa using this
    have i2 : i < its2.toArray.size := by
      have := (List.getElem?_eq_some_iff.mp hu2).1
      simpa using this
    have hlt : ∀ c ∈ ([N + 4, N + 2, N + 3, N, N + 1] : List Addr), c < s.heap.objs.size := fun c hcm => by
      rcases mem5 hcm with q | q | q | q | q
      · rw [q]; exact Heap.lt_size hz
      · rw [q]; exact Heap.lt_size hTI
      · obtain ⟨_, _, e⟩ := hTO; rw [q]; exact Heap.lt_size e
      · obtain ⟨_, e, _⟩ := itH_obj h1; rw [q]; exact Heap.lt_size e
      · obtain ⟨_, e, _⟩ := itH_obj h2; rw [q]; exact Heap.lt_size e
    refine G.goes i s _ _ (Nat.lt_min.mpr ⟨i1, i2⟩) ⟨hz, hTI, hTO, ⟨h1, p1⟩, ⟨h2, p2⟩⟩ fun v h' tk hY st' hk htk => ?_
    obtain ⟨T, v1, v2, rfl, hT, e1, e2, hTT⟩ := hY
    have e1' : v1 = u := by
      rw [List.getElem?_toArray] at e1
      rw [hu] at e1
      exact (Option.some.inj e1).symm
    have e2' : v2 = u2 := by
      rw [List.getElem?_toArray] at e2
      rw [hu2] at e2
      exact (Option.some.inj e2).symm
    subst e1' e2'
    have new : ObjOk X.prog X.w (upd H T (.tup [x, y])) h' T (.tup [x, y]) := ⟨by show 2 ≤ sizeLine; decide, [v1, v2], .cons ru (.cons ru2 .nil), hTT⟩
    have J : Inv X pins σ (upd H T (.tup [x, y])) { s with heap := h', toks := tk } :=
      I.turnedNew (ch := [N + 4, N + 2, N + 3, N, N + 1]) (fun c o hcn q => hk c o (fun z => hcn (by
        rcases List.mem_cons.mp z with z | z
        · rw [z]; simp
        · rcases List.mem_cons.mp z with z | z
          · rw [z]; simp
          · rcases List.mem_cons.mp z with z | z
            · rw [z]; simp
            · rw [List.mem_singleton.mp z]; simp)) q) hf hT new
    refine ⟨.ref T, _, J, rfl, ⟨T, x, y, rfl, I.hok.fresh hT, rfl, fun l hl => by rw [inv_inj I hl hqx]; exact hx, fun l hl => by rw [inv_inj I hl hqy]; exact hy⟩, ⟨st'.1, st'.2.1, st'.2.2.1, st'.2.2.2.1.1, st'.2.2.2.2.1⟩, fun c hcm => ?_⟩
    rw [upd_ne (Nat.ne_of_lt (Nat.lt_of_lt_of_le (hlt c hcm) hT))]
    exact (hf c hcm).1
  done := by
    intro X hP hw hK hc i pins s σ H E I hf st hg
    subst hP hw hK
    obtain ⟨hz, hTI, hTO, h1, h2⟩ := st
    obtain ⟨xs, ys, hqx, hqy, hi⟩ := hg
    obtain ⟨its, rv, p1⟩ := inv_sq I hqx
    obtain ⟨its2, rv2, p2⟩ := inv_sq I hqy
    have hh : X.A.in1.handled = none := I.ok.hd hc
    have S := zip_sep2 (N := N) (fp1 := [a]) (fp2 := [b]) (fun c m => by rw [List.mem_singleton.mp m]; exact ha) (fun c m => by rw [List.mem_singleton.mp m]; exact hb)
    have G := GoesN.zip2 (prog := X.prog) (w := X.w) (A := X.A) (elts := elts) (x1 := kk) (pos := tpos) S (draws_k j hh N a (Nat.ne_of_lt ha) its.toArray) (draws_k k hh (N + 1) b (Nat.ne_of_lt (Nat.lt_succ_of_lt hb)) its2.toArray)
    have en : i = min its.toArray.size its2.toArray.size := by
      rw [List.size_toArray, List.size_toArray, ← rv.length, ← rv2.length]
      exact hi
    refine wpAny_mono (G.stops s (fun s' => Inv X pins σ H s') E (by rw [← en]; exact ⟨hz, hTI, hTO, ⟨h1, p1⟩, ⟨h2, p2⟩⟩) fun h' tk hk htk => ?_) (fun r s1 q => q) fun _ _ q => q
    exact I.turnedL (ch := [N + 4, N + 2, N + 3, N, N + 1]) (fun c o hcn q => hk c o (fun z => hcn (by
        rcases List.mem_cons.mp z with z | z
        · rw [z]; simp
        · rcases List.mem_cons.mp z with z | z
          · rw [z]; simp
          · rcases List.mem_cons.mp z with z | z
            · rw [z]; simp
            · rw [List.mem_singleton.mp z]; simp)) q) hf
  self := fun A i s Q E st h => wpAny_pyIter_zip st.1 h
def iZipK (K : PySem.W.Frag) (ta : TA) : TI := fun σ H R => ta σ H fun vs H1 => ∃ j k a b xs ys, vs = [.ref a, .ref b] ∧ SqK K j H1 a xs ∧ SqK K k H1 b ys ∧ R (ItZ K j k a b) H1
theorem pi_zipK {X : Cx} {e e2 : Expr} {ta : TA} {p pos tpos : Pos} {elts : List Expr} {kk : Nat} (hg : Gl X "zip") (hm : X.mg "zip" = none) (ha : PA X [e, e2] ta)
    (he : starEach [e, e2] X.env = (false, eval e X.env) :: starEach [e2] X.env := by rfl) (hpl : (backTo pos (starEach [e2] X.env)).any (·.1) = false := by rfl) : PI X (.Tuple elts kk tpos) (.Call (.Name "zip" p) [e, e2] [] pos) (iZipK X.K ta) := by
  refine ⟨fun pins s σ H R I h => Call_ (ld_blt I hg hm PyProof.Rows.boot_zip (PyProof.Rows.callWith_type1 (thn (ha.run pos pins s σ H _ I h) fun us s1 ⟨vs, H1, I1, r1, q1⟩ => ?_) he hpl))⟩
  obtain ⟨j, k, a, b, xs, ys, rfl, hqx, hqy, q⟩ := q1
  obtain ⟨u1, u2, rfl, r1, r2⟩ := vals2 r1
  cases r1
  cases r2
  obtain ⟨its, rv, p1⟩ := inv_sq I1 hqx
  obtain ⟨its2, rv2, p2⟩ := inv_sq I1 hqy
  have la := srcH_lt p1
  have lb := srcH_lt p2
  refine zip_begins2 (begins_k j a its.toArray) (begins_k k b its2.toArray) p1 p2 fun h' hz hTI hTO e1 e2 hsz hk => wpAny_pyIter_zip hz ?_
  have I2 : Inv X pins σ H1 { s1 with heap := h' } := I1.kept (t' := s1.toks) hk
  refine ⟨_, _, _, _, H1, rfl, I2, turn_zipK la lb, ⟨hz, hTI, ⟨_, _, hTO⟩, itH_new e1, itH_new e2⟩, fun c hcm => ?_, q⟩
  have hle : s1.heap.objs.size ≤ c := by
    rcases mem5 hcm with z | z | z | z | z
    · rw [z]; exact Nat.le_add_right _ _
    · rw [z]; exact Nat.le_add_right _ _
    · rw [z]; exact Nat.le_add_right _ _
    · rw [z]; exact Nat.le_refl _
    · rw [z]; exact Nat.le_add_right _ _
  exact I1.fpOk hle (I1.hok.fresh hle)

/-! ### enumerate -/
def ItN (K : PySem.W.Frag) (k : Bool) (a : Addr) : It :=
  ⟨fun i H => ∃ xs x, SqK K k H a xs ∧ xs[i]? = some x,
   fun i H v H' => ∃ T x, v = .ref T ∧ H T = none ∧ H' = upd H T (.tup [.int (i : Nat), x]) ∧ ∀ xs, SqK K k H a xs → xs[i]? = some x,
   fun i H => ∃ xs, SqK K k H a xs ∧ i = xs.length⟩
def enumT (k : Bool) (a : Addr) (N : Nat) (i : Nat) (h : Heap) : Prop := (∃ old, IsEnum h (N + 1) N ((0 : Int) + (i : Int)) old) ∧ ItH k h N a i
theorem mem2 {N c : Nat} (h : c ∈ ([N + 1, N] : List Addr)) : c = N + 1 ∨ c = N := by simpa using h
theorem turn_enumK {P : Program} {w : World} {K : PySem.W.Frag} {elts : List Expr} {kk : Nat} {tpos : Pos} {k : Bool} {a : Addr} {N : Nat} (ha : a < N) :
    Turn P w K (.Tuple elts kk tpos) (ItN K k a) [N + 1, N] (N + 1) (enumT k a N) where
  mem := by simp
  obj := fun i h st c hc => by
    obtain ⟨⟨old, he⟩, h1⟩ := st
    rcases mem2 hc with q | q
    · rw [q]; exact ⟨_, he, fun v z => nomatch z⟩
    · rw [q]; exact itH_obj h1
  keep := fun i h h' st kp => ⟨let ⟨old, he⟩ := st.1; ⟨old, kp _ (by simp) _ he⟩, itH_keep st.2 (kp _ (by simp))⟩
  item := by
    intro X hP hw hK hc i pins s σ H E I hf st hg
    subst hP hw hK
    obtain ⟨he, h1⟩ := st
    obtain ⟨xs, x, hqx, hx⟩ := hg
    obtain ⟨its, rv, p1⟩ := inv_sq I hqx
    obtain ⟨u, hu, ru⟩ := rv.get hx
    have hh : X.A.in1.handled = none := I.ok.hd hc
    have G := GoesN.enumFrom (prog := X.prog) (w := X.w) (A := X.A) (elts := elts) (x1 := kk) (pos := tpos) 0 (draws_k k hh N a (Nat.ne_of_lt ha) its.toArray) (N + 1) (Nat.succ_ne_self N) (fun z => by
      rcases List.mem_cons.mp z with z | z
      · exact Nat.succ_ne_self N z
      · exact absurd (List.mem_singleton.mp z) (Nat.ne_of_gt (Nat.lt_succ_of_lt ha))) (List.mem_cons_self ..)
    have i1 : i < its.toArray.size := by
      have := (List.getElem?_eq_some_iff.mp hu).1
      simpa using this
    have hlt : ∀ c ∈ ([N + 1, N] : List Addr), c < s.heap.objs.size := fun c hcm => by
      rcases mem2 hcm with q | q
      · obtain ⟨_, e⟩ := he; rw [q]; exact Heap.lt_size e
      · obtain ⟨_, e, _⟩ := itH_obj h1; rw [q]; exact Heap.lt_size e
    refine G.goes i s _ _ i1 ⟨he, h1, p1⟩ fun v h' tk hY st' hk htk => ?_
    obtain ⟨T, t, v1, rfl, hT, e1, hTT⟩ := hY
    have e1' : v1 = u := by
      rw [List.getElem?_toArray] at e1
      rw [hu] at e1
      exact (Option.some.inj e1).symm
    subst e1'
    have ei : ((0 : Int) + (i : Int)) = ((i : Nat) : Int) := by omega
    rw [ei] at hTT
    have new : ObjOk X.prog X.w (upd H T (.tup [.int (i : Nat), x])) h' T (.tup [.int (i : Nat), x]) := ⟨by show 2 ≤ sizeLine; decide, [.int i t, v1], .cons ⟨_, rfl⟩ (.cons ru .nil), hTT⟩
    have J : Inv X pins σ (upd H T (.tup [.int (i : Nat), x])) { s with heap := h', toks := tk } :=
      I.turnedNew (ch := [N + 1, N]) (fun c o hcn q => hk c o hcn q) hf hT new
    refine ⟨.ref T, _, J, rfl, ⟨T, x, rfl, I.hok.fresh hT, rfl, fun l hl => by rw [inv_inj I hl hqx]; exact hx⟩, ⟨st'.1, st'.2.1⟩, fun c hcm => ?_⟩
    rw [upd_ne (Nat.ne_of_lt (Nat.lt_of_lt_of_le (hlt c hcm) hT))]
    exact (hf c hcm).1
  done := by
    intro X hP hw hK hc i pins s σ H E I hf st hg
    subst hP hw hK
    obtain ⟨he, h1⟩ := st
    obtain ⟨xs, hqx, hi⟩ := hg
    obtain ⟨its, rv, p1⟩ := inv_sq I hqx
    have hh : X.A.in1.handled = none := I.ok.hd hc
    have G := GoesN.enumFrom (prog := X.prog) (w := X.w) (A := X.A) (elts := elts) (x1 := kk) (pos := tpos) 0 (draws_k k hh N a (Nat.ne_of_lt ha) its.toArray) (N + 1) (Nat.succ_ne_self N) (fun z => by
      rcases List.mem_cons.mp z with z | z
      · exact Nat.succ_ne_self N z
      · exact absurd (List.mem_singleton.mp z) (Nat.ne_of_gt (Nat.lt_succ_of_lt ha))) (List.mem_cons_self ..)
    have en : i = its.toArray.size := by
      rw [List.size_toArray, ← rv.length]
      exact hi
    exact G.stops s (fun s' => Inv X pins σ H s') E (by rw [← en]; exact ⟨he, h1, p1⟩) fun h' tk hk htk => I.turnedL (ch := [N + 1, N]) (fun c o hcn q => hk c o hcn q) hf
  self := fun A i s Q E st h => let ⟨_, he⟩ := st.1; wpAny_pyIter_enum he h
theorem meets_enum1 {v : Value} {o : Obj} {P : Heap → Prop} (B : Begins v o P) :
    Meets (Builtin.«enumerate.__new__» ⟨[.type "enumerate", v], []⟩) (fun _ R s => P s.heap ∧
      R (.ok (.ret (.ref (s.heap.push o).objs.size))) { s with heap := (s.heap.push o).push { cls := .type "enumerate", data := .fields #[.none, .bool false, .ref s.heap.objs.size, rawInt 0, .none, .none] } }) :=
  .of_wp fun prog w A R s q => by
    obtain ⟨hp, gs, dr, tk, os⟩ := s
    obtain ⟨hl, q⟩ := q
    have hsub := sub_enumerate
    have hI : ∀ (A : Around) (E : Value → Shared → Prop) (Q : Value → Shared → Prop), Q (.ref hp.objs.size) ⟨hp.push o, gs, dr, tk, os⟩ → wpAny (model prog w) A (pyIter v) Q E ⟨hp, gs, dr, tk, os⟩ := fun A E Q y => B.iter prog w A E ⟨hp, gs, dr, tk, os⟩ Q hl y
    wp_walk using hI
    refine wpAny_stack_any fun st => wpAny_pure ?_
    split
    · rename_i c _ _ _ _ _
      cases (c == Value.type "enumerate")
      · wp_walk using hI
        exact ⟨_, rfl, q⟩
      · wp_walk using hI
        exact ⟨_, rfl, q⟩
    · wp_walk using hI
      exact ⟨_, rfl, q⟩
theorem enum_begins1 {prog : Program} {w : World} {A : Around} {E : Value → Shared → Prop} {s : Shared} {v : Value} {o : Obj} {P : Heap → Prop} {Q : Value → Shared → Prop} (B : Begins v o P) (h1 : P s.heap)
    (h : ∀ h', IsEnum h' (s.heap.objs.size + 1) s.heap.objs.size 0 .none → h'.get? s.heap.objs.size = some o → (∀ b o, s.heap.get? b = some o → h'.get? b = some o) → Q (.ref (s.heap.objs.size + 1)) { s with heap := h' }) :
    wpAny (model prog w) A (call (.type "enumerate") [v]) Q E s := by
  refine callType_new F.called_enumerate (by decide) (F.typeCall_enumerate_1 _) (F.newCall_enumerate_1 _) (fun obj => F.args_object_init_2 obj _) F.entry_enumerate_new (meets_enum1 B) ⟨h1, ?_⟩
  have hz : (s.heap.push o).objs.size = s.heap.objs.size + 1 := Heap.size_push ..
  show _ ∧ _
  rw [hz]
  have he := Heap.get?_push_size (s.heap.push o) (o := { cls := .type "enumerate", data := .fields #[.none, .bool false, .ref s.heap.objs.size, rawInt 0, .none, .none] }) rfl
  rw [hz] at he
  exact ⟨⟨_, he, rfl⟩, h _ he (Heap.get?_push_of_some _ (Heap.get?_push_size _ B.free)) fun b o y => Heap.get?_push_of_some _ (Heap.get?_push_of_some _ y)⟩
def iEnumK (K : PySem.W.Frag) (ta : TA) : TI := fun σ H R => ta σ H fun vs H1 => ∃ k a xs, vs = [.ref a] ∧ SqK K k H1 a xs ∧ R (ItN K k a) H1
theorem pi_enumK {X : Cx} {e : Expr} {ta : TA} {p pos tpos : Pos} {elts : List Expr} {kk : Nat} (hg : Gl X "enumerate") (hm : X.mg "enumerate" = none) (ha : PA X [e] ta) (he : starEach [e] X.env = [(false, eval e X.env)] := by rfl) :
    PI X (.Tuple elts kk tpos) (.Call (.Name "enumerate" p) [e] [] pos) (iEnumK X.K ta) := by
  refine ⟨fun pins s σ H R I h => Call_ (ld_blt I hg hm boot_enumerate (PyProof.Rows.callWith_type1 (thn (ha.run pos pins s σ H _ I h) fun us s1 ⟨vs, H1, I1, r1, q1⟩ => ?_) he rfl))⟩
  obtain ⟨k, a, xs, rfl, hqx, q⟩ := q1
  obtain ⟨u1, rfl, r2⟩ := vals1 r1
  obtain rfl : u1 = Value.ref a := r2
  obtain ⟨its, rv, p1⟩ := inv_sq I1 hqx
  refine enum_begins1 (begins_k k a its.toArray) p1 fun h' he e1 hk => wpAny_pyIter_enum he ?_
  have I2 : Inv X pins σ H1 { s1 with heap := h' } := I1.kept (t' := s1.toks) hk
  refine ⟨_, _, _, _, H1, rfl, I2, turn_enumK (srcH_lt p1), ⟨⟨_, he⟩, itH_new e1⟩, fun c hcm => ?_, q⟩
  have hle : s1.heap.objs.size ≤ c := by
    rcases mem2 hcm with z | z
    · rw [z]; exact Nat.le_succ _
    · rw [z]; exact Nat.le_refl _
  exact I1.fpOk hle (I1.hok.fresh hle)
end DL

set_option Elab.async false
set_option linter.all false
set_option maxRecDepth 100000
set_option maxHeartbeats 2000000
/-! DL8: targets, walked things, comprehensions, loops. -/
namespace DL
open PySem PySem.Spec L2
open PyProof.Rows hiding St

/-! ### targets -/
structure DG (X : Cx) (tg : Expr) (ids : List Nat) (b : D → Sl → Option Sl) : Prop where
  run : ∃ g : TG, PG X tg g ∧ ∀ (G : Gc) (O : List Addr) (w : Om) (r r' : Sl) (s : L2.St) (H : Hp) (v : V) (d : D) (Q : L2.St → Hp → Prop), G.K = X.K → Rel G O w r s H → Rep G.K (Fx G O w) H v d → b d r = some r' →
    (∀ s', s'.length = s.length → (∀ i, i ∉ ids → s'[i]? = s[i]?) → Rel G O w r' s' H → Q s' H) → g v s H Q
structure DGs (X : Cx) (tg : List Expr) (ids : List Nat) (b : List D → Sl → Option Sl) : Prop where
  run : ∃ g : TGs, PGs X tg g ∧ ∀ (G : Gc) (O : List Addr) (w : Om) (r r' : Sl) (s : L2.St) (H : Hp) (vs : List V) (ds : List D) (Q : L2.St → Hp → Prop), G.K = X.K → Rel G O w r s H → Reps G.K (Fx G O w) H vs ds → b ds r = some r' →
    (∀ s', s'.length = s.length → (∀ i, i ∉ ids → s'[i]? = s[i]?) → Rel G O w r' s' H → Q s' H) → g vs s H Q
section
variable {X : Cx} {tg : Expr} {tgs : List Expr} {ids js : List Nat} {pos : Pos} {x : Str}
def bName (i : Nat) : D → Sl → Option Sl := fun d r => some (r.set i (.p d))
theorem dg_name (i : Nat) (hN : X.N.Nodup) (hi : X.N[i]? = some x := by rfl) (hx : Loc X.env.scope x := by first | exact .inl rfl | exact .inr rfl) (hf : X.fn x = true ∨ X.env.scope.names.lookup x = some .local := by first | exact .inl rfl | exact .inr rfl) : DG X (.Name x pos) [i] (bName i) := by
  refine ⟨_, pg_name (i := i) hN hi hx hf, fun G O w r r' s H v d Q hK R hv hb q => ?_⟩
  cases hb
  exact q _ (List.length_set ..) (fun j hj => List.getElem?_set_ne (fun e => hj (by rw [e]; exact List.mem_singleton.mpr rfl))) (R.set_p i hv)
def bNil : List D → Sl → Option Sl := fun ds r => match ds with
  | [] => some r
  | _ => none
def bCons (b : D → Sl → Option Sl) (c : List D → Sl → Option Sl) : List D → Sl → Option Sl := fun ds r => match ds with
  | d :: ds => (b d r).bind (c ds)
  | [] => none
theorem dgs_nil : DGs X [] [] bNil := by
  refine ⟨_, pgs_nil, fun G O w r r' s H vs ds Q hK R hv hb q => ?_⟩
  cases hv with
  | nil =>
    cases hb
    exact ⟨rfl, q s rfl (fun _ _ => rfl) R⟩
  | cons h1 h2 => cases hb
theorem dgs_cons {b : D → Sl → Option Sl} {c : List D → Sl → Option Sl} (h1 : DG X tg ids b) (h2 : DGs X tgs js c) (hs : (assignEach (tg :: tgs) X.env).map (·.2) = assign tg X.env :: (assignEach tgs X.env).map (·.2) := by rfl) : DGs X (tg :: tgs) (ids ++ js) (bCons b c) := by
  obtain ⟨g1, p1, h1⟩ := h1.run
  obtain ⟨g2, p2, h2⟩ := h2.run
  refine ⟨_, pgs_cons p1 p2 hs, fun G O w r r' s H vs ds Q hK R hv hb q => ?_⟩
  cases hv with
  | nil => cases hb
  | cons e1 e2 =>
    unfold bCons at hb
    obtain ⟨r1, b1, b2⟩ := Option.bind_eq_some_iff.mp hb
    refine ⟨_, _, rfl, h1 G O w r r1 s H _ _ _ hK R e1 b1 fun s1 l1 k1 R1 => ?_⟩
    refine h2 G O w r1 r' s1 H _ _ _ hK R1 e2 b2 fun s2 l2 k2 R2 => ?_
    exact q s2 (l2.trans l1) (fun i hi => (k2 i fun z => hi (List.mem_append_right _ z)).trans (k1 i fun z => hi (List.mem_append_left _ z))) R2
def bTup (n : Nat) (c : List D → Sl → Option Sl) : D → Sl → Option Sl := fun d r => match d with
  | .tup l => if l.length = n then c l r else none
  | _ => none
theorem dg_tup {k : Nat} {c : List D → Sl → Option Sl} {n : Nat} (hc : X.calm = true) (h : DGs X tgs ids c) (hn : (assignEach tgs X.env).length = n := by rfl) (hst : (assignEach tgs X.env).findIdx? (·.1) = none := by rfl) : DG X (.Tuple tgs k pos) ids (bTup n c) := by
  obtain ⟨g, p, h⟩ := h.run
  refine ⟨_, pg_tup hc p hn hst, fun G O w r r' s H v d Q hK R hv hb q => ?_⟩
  unfold bTup at hb
  split at hb
  · rename_i l
    split at hb
    · rename_i hl
      cases hv with
      | tup h1 h2 => exact ⟨_, _, rfl, by rw [← hK]; exact h1.sq, by rw [h2.length]; exact hl, h G O w r r' s H _ _ Q hK R h2 hb q⟩
    · cases hb
  · cases hb
end
theorem wipe_get : ∀ (vs : List Nat) (s : L2.St) (i : Nat), (wipe s vs)[i]? = if i ∈ vs then (if i < s.length then some none else none) else s[i]?
  | [], s, i => by simp [wipe]
  | v :: vs, s, i => by
    unfold wipe
    rw [List.getElem?_set, wipe_get vs s i, wipe_length]
    by_cases e : v = i
    · subst e
      simp
    · rw [if_neg e]
      have e' : ¬ i = v := fun z => e z.symm
      by_cases m : i ∈ vs <;> simp [m, e']
theorem wipe_eq {s s' : L2.St} {vs : List Nat} (hl : s'.length = s.length) (h : ∀ i, i ∉ vs → s'[i]? = s[i]?) : wipe s' vs = wipe s vs := by
  apply List.ext_getElem?
  intro i
  rw [wipe_get, wipe_get, hl]
  by_cases m : i ∈ vs
  · rw [if_pos m, if_pos m]
  · rw [if_neg m, if_neg m, h i m]
def wipeD (r : Sl) : List Nat → Sl
  | [] => r
  | v :: vs => (wipeD r vs).set v .no
theorem Rel.wipe {G : Gc} {O : List Addr} {w : Om} {r : Sl} {s : L2.St} {H : Hp} (R : Rel G O w r s H) : ∀ vs : List Nat, Rel G O w (wipeD r vs) (L2.wipe s vs) H
  | [] => R
  | v :: vs => (Rel.wipe R vs).set_no v

/-! ### what is walked -/
/-- what a turn hands out -/
def YOk (K : PySem.W.Frag) (F : Addr → Prop) (H : Hp) (x : V) (H' : Hp) (d : D) : Prop :=
  (H' = H ∧ Rep K F H x d) ∨ ∃ T xs l, H T = none ∧ H' = upd H T (.tup xs) ∧ x = .ref T ∧ d = .tup l ∧ Reps K F H xs l
/-- J hands out ds, as long as what is not in Fs stands -/
def IOk (K : PySem.W.Frag) (Fs F : Addr → Prop) (H : Hp) (J : It) (ds : List D) : Prop :=
  ∀ F1 H1, (∀ a o, H a = some o → ¬ Fs a → H1 a = some o) → Tr F H F1 H1 → ∀ i, (i = ds.length → J.stop i H1) ∧ ∀ d, ds[i]? = some d → J.go i H1 ∧ ∀ x H2, J.yld i H1 x H2 → YOk K F1 H1 x H2 d
structure DI (X : Cx) (T : Tbl) (W : WX) (tg e : Expr) (f : Sl → Om → Out (List D)) : Prop where
  run : ∃ wi : TI, PI X tg e wi ∧ ∀ (G : Gc) (O : List Addr) (w : Om) (r : Sl) (s : L2.St) (H : Hp) (R : It → Hp → Prop), G.K = X.K → G.T = T → Rel G O w r s H →
    (f r w).Sat (fun ds w' => ∀ J H', Rel G O w' r s H' → TrE G w H w' H' → IOk G.K (Fx G O w') (Fx G O w') H' J ds → R J H') (OkX X G W) → wi s H R
structure BI (X : Cx) (T : Tbl) (W : WX) (tg e : Expr) (f : Sl → Om → Out (List D)) : Prop where
  run : ∃ wi : TI, PI X tg e wi ∧ ∀ (G : Gc) (O : List Addr) (w : Om) (r : Sl) (s : L2.St) (H : Hp) (R : It → Hp → Prop), G.K = X.K → G.T = T → Rel G O w r s H →
    (f r w).Sat (fun ds w' => ∀ J H', Rel G O w' r s H' → TrE G w H w' H' → IOk G.K (Fx G [] w') (Fx G O w') H' J ds → R J H') (OkX X G W) → wi s H R
theorem IOk.lend {K : PySem.W.Frag} {Fs Fs' F : Addr → Prop} {H : Hp} {J : It} {ds : List D} (h : IOk K Fs' F H J ds) (hs : ∀ a, Fs a → Fs' a) : IOk K Fs F H J ds :=
  fun F1 H1 k t => h F1 H1 (fun a o e n => k a o e fun z => n (hs a z)) t
section
variable {X : Cx} {T : Tbl} {W : WX} {tg e a b c : Expr} {f fa fb : Sl → Om → Out D} {fi : Sl → Om → Out (List D)} {fs : Sl → Om → Out (List D)} {pos p : Pos}
theorem DI.bi (h : DI X T W tg e fi) : BI X T W tg e fi := by
  obtain ⟨wi, p, h⟩ := h.run
  exact ⟨wi, p, fun G O w r s H R hK hT hR hs => h G O w r s H R hK hT hR (hs.mono fun ds w' q J H' R' t k => q J H' R' t (k.lend fun a z => fx_bare z))⟩
/-- a list or a tuple -/
def ItK (K : PySem.W.Frag) (k : Bool) (a : Addr) : It := match k with
  | true => Itt K a
  | false => Itl K a
def iSeqK (K : PySem.W.Frag) (te : TE) : TI := fun σ H R => te σ H fun x H1 => ∃ k a xs, x = .ref a ∧ SqK K k H1 a xs ∧ R (ItK K k a) H1
theorem pi_seqK {te : TE} (he : PE X e te) : PI X tg e (iSeqK X.K te) := by
  refine ⟨fun pins s σ H R I h => thn (he.run pins s σ H _ I h) fun v s1 ⟨x, H1, I1, r1, q1⟩ => ?_⟩
  obtain ⟨k, a, xs, rfl, hq, q⟩ := q1
  obtain rfl : v = Value.ref a := r1
  obtain ⟨its, rv, p⟩ := inv_sq I1 hq
  refine (begins_k k a its.toArray).iter _ _ _ _ _ _ p ?_
  have I2 : Inv X pins σ H1 { s1 with heap := s1.heap.push (itO k a) } := I1.kept (t' := s1.toks) fun b o e => Heap.get?_push_of_some _ e
  have fp : ∀ b ∈ ([s1.heap.objs.size] : List Addr), FpOk X pins H1 b := fun b hb => by
    rw [List.mem_singleton.mp hb]
    exact I1.fpOk (Nat.le_refl _) (I1.hok.fresh (Nat.le_refl _))
  cases k with
  | true => exact ⟨_, [s1.heap.objs.size], _, _, H1, rfl, I2, turn_tuple a _, itH_new (k := true) (Heap.get?_push_size _ rfl), fp, q⟩
  | false => exact ⟨_, [s1.heap.objs.size], _, _, H1, rfl, I2, turn_list a _, itH_new (k := false) (Heap.get?_push_size _ rfl), fp, q⟩
/-- a sequence that Fs leaves alone -/
def SqF (K : PySem.W.Frag) (Fs : Addr → Prop) (k : Bool) (H : Hp) (a : Addr) (xs : List V) : Prop := match k with
  | true => TpAt K Fs H a xs
  | false => LsAt K Fs H a xs
theorem SqF.sq {K : PySem.W.Frag} {k : Bool} {H : Hp} {a : Addr} {xs : List V} {Fs : Addr → Prop} (h : SqF K Fs k H a xs) : SqK K k H a xs := by
  cases k
  · exact LsAt.sq h
  · exact TpAt.sq h
/-- the source stands -/
theorem SqF.stays {K : PySem.W.Frag} {k : Bool} {H H1 : Hp} {a : Addr} {xs : List V} {Fs : Addr → Prop} (h : SqF K Fs k H a xs) (st : ∀ a o, H a = some o → ¬ Fs a → H1 a = some o) : SqK K k H1 a xs := by
  have rd : ∀ {u : HO}, Rd H a u → ¬ Fs a → Rd H1 a u := fun {u} q n => by
    rcases q with q | ⟨o, q⟩
    · exact .inl (st a _ q n)
    · exact .inr ⟨o, st a _ q n⟩
  cases k
  · rcases h with h | h
    · exact .inl (rd h.1 h.2)
    · exact .inr h
  · rcases h with h | h
    · exact .inl (rd h.1 h.2)
    · exact .inr h
theorem iok_seq {K : PySem.W.Frag} {k : Bool} {Fs F : Addr → Prop} {H : Hp} {a : Addr} {xs : List V} {ds : List D} (h : SqF K Fs k H a xs) (hx : Reps K F H xs ds) : IOk K Fs F H (ItK K k a) ds := by
  intro F1 H1 st t i
  have h1 := h.stays st
  have hx1 := Reps.tr t _ _ hx
  refine ⟨fun hi => ?_, fun d hd => ?_⟩
  · cases k
    · exact ⟨xs, h1, by rw [hx.length, hi]; exact Nat.le_refl _⟩
    · exact ⟨xs, h1, by rw [hx.length, hi]; exact Nat.le_refl _⟩
  · obtain ⟨v, e1, e2⟩ := hx1.get hd
    cases k
    · refine ⟨⟨xs, v, h1, e1⟩, fun x H2 y => ?_⟩
      obtain ⟨rfl, y⟩ := y
      have := y xs h1
      rw [e1] at this
      cases this
      exact .inl ⟨rfl, e2⟩
    · refine ⟨⟨xs, v, h1, e1⟩, fun x H2 y => ?_⟩
      obtain ⟨rfl, y⟩ := y
      have := y xs h1
      rw [e1] at this
      cases this
      exact .inl ⟨rfl, e2⟩
theorem own_bare {G : Gc} {O : List Addr} {w : Om} {H : Hp} {a : Addr} (W : Wor G O w H) (m : a ∈ O) : ¬ Fx G [] w a := by
  obtain ⟨d1, d2, d3⟩ := W.odis.2 a m
  intro z
  rcases z with z | z | z | z
  · exact nomatch z
  · exact z d1
  · exact d3 z
  · exact d2 z
/-- a readable sequence's kind and items -/
theorem Rep.sqF {K : PySem.W.Frag} {F : Addr → Prop} {H : Hp} {v : V} {d : D} {l : List D} (h : Rep K F H v d) (e : D.items d = some l) : ∃ k a xs, v = .ref a ∧ SqF K F k H a xs ∧ Reps K F H xs l := by
  cases h with
  | tup h1 h2 => cases e; exact ⟨true, _, _, rfl, h1, h2⟩
  | lst h1 h2 h3 => cases e; exact ⟨false, _, _, rfl, .inl ⟨.inl h1, h2⟩, h3⟩
  | fl h1 h2 => cases e; exact ⟨false, _, _, rfl, h1, h2⟩
  | _ => cases e
theorem SqF.lend {K : PySem.W.Frag} {k : Bool} {H : Hp} {a : Addr} {xs : List V} {Fs Fs' : Addr → Prop} (h : SqF K Fs' k H a xs) (hs : ∀ a, Fs a → Fs' a) : SqF K Fs k H a xs := by
  cases k
  · rcases h with h | h
    · exact .inl ⟨h.1, fun z => h.2 (hs _ z)⟩
    · exact .inr h
  · rcases h with h | h
    · exact .inl ⟨h.1, fun z => h.2 (hs _ z)⟩
    · exact .inr h
theorem BRep.sqF {G : Gc} {O : List Addr} {w : Om} {H : Hp} {v : V} {d : D} {l : List D} (W : Wor G O w H) (h : BRep G O w H v d) (e : D.items d = some l) : ∃ k a xs, v = .ref a ∧ SqF G.K (Fx G [] w) k H a xs ∧ Reps G.K (Fx G O w) H xs l := by
  rcases h with h | ⟨a, xs, l', e1, e2, m, e3, h⟩
  · obtain ⟨k, a, xs, h1, h2, h3⟩ := h.sqF e
    exact ⟨k, a, xs, h1, h2.lend fun a z => fx_bare z, h3⟩
  · subst e1 e2
    cases e
    exact ⟨false, a, xs, rfl, .inl ⟨.inl e3, own_bare W m⟩, h⟩
end
end DL

set_option Elab.async false
set_option linter.all false
set_option maxRecDepth 100000
set_option maxHeartbeats 2000000
/-! DL9: what is walked, from expressions; for, while. -/
namespace DL
open PySem PySem.Spec L2
open PyProof.Rows hiding St

section
variable {X : Cx} {T : Tbl} {W : WX} {tg e a b c : Expr} {f fa fb : Sl → Om → Out D} {fi : Sl → Om → Out (List D)} {fs : Sl → Om → Out (List D)} {pos p : Pos}
/-- a list, a tuple -/
def iSeq (f : Sl → Om → Out D) : Sl → Om → Out (List D) := fun r w => (f r w).bind fun d w => match D.items d with
  | some l => .ok l w
  | none => .stuck
theorem di_seq (h : DE X T W e f) : DI X T W tg e (iSeq f) := by
  obtain ⟨te, pe, h⟩ := h.run
  refine ⟨_, pi_seqK pe, fun G O w r s H R hK hT hR hs => ?_⟩
  unfold iSeq at hs
  rw [Out.sat_bind] at hs
  refine h G O w r s H _ hK hT hR (hs.mono fun d w1 q v H1 R1 t1 p1 => ?_)
  split at q
  · rename_i l el
    obtain ⟨k, a, xs, rfl, h2, h3⟩ := p1.sqF el
    rw [← hK]
    exact ⟨k, a, xs, rfl, h2.sq, q _ H1 R1 t1 (iok_seq h2 h3)⟩
  · exact q.elim
theorem bi_seq (h : BE X T W e f) : BI X T W tg e (iSeq f) := by
  obtain ⟨te, pe, h⟩ := h.run
  refine ⟨_, pi_seqK pe, fun G O w r s H R hK hT hR hs => ?_⟩
  unfold iSeq at hs
  rw [Out.sat_bind] at hs
  refine h G O w r s H _ hK hT hR (hs.mono fun d w1 q v H1 R1 t1 p1 => ?_)
  split at q
  · rename_i l el
    obtain ⟨k, a, xs, rfl, h2, h3⟩ := p1.sqF R1.toWor el
    rw [← hK]
    exact ⟨k, a, xs, rfl, h2.sq, q _ H1 R1 t1 (iok_seq h2 h3)⟩
  · exact q.elim
/-! ranges -/
def rngD (lo : Int) (n : Nat) : List D := (List.range n).map fun i => .int (lo + (i : Nat))
theorem iok_rng {K : PySem.W.Frag} {Fs F : Addr → Prop} {H : Hp} {lo : Int} {n : Nat} : IOk K Fs F H (Itr lo n) (rngD lo n) := by
  intro F1 H1 st t i
  refine ⟨fun hi => ?_, fun d hd => ?_⟩
  · show n ≤ i
    rw [hi, rngD, List.length_map, List.length_range]
    exact Nat.le_refl _
  · have hl : i < n := by
      have := (List.getElem?_eq_some_iff.mp hd).1
      rw [rngD, List.length_map, List.length_range] at this
      exact this
    refine ⟨hl, fun x H2 y => ?_⟩
    obtain ⟨rfl, rfl⟩ := y
    have e : d = .int (lo + (i : Nat)) := by
      rw [rngD, List.getElem?_map, List.getElem?_range hl] at hd
      exact (Option.some.inj hd).symm
    rw [e]
    exact .inl ⟨rfl, .int _⟩
def iR1 (f : Sl → Om → Out (List D)) : Sl → Om → Out (List D) := fun r w => (f r w).bind fun ds w => match ds with
  | [.int j] => if -(2 ^ 62) ≤ j ∧ j < 2 ^ 62 then .ok (rngD 0 j.toNat) w else .stuck
  | _ => .stuck
def iR2 (f : Sl → Om → Out (List D)) : Sl → Om → Out (List D) := fun r w => (f r w).bind fun ds w => match ds with
  | [.int i, .int j] => if -(2 ^ 62) ≤ i ∧ i < 2 ^ 62 ∧ -(2 ^ 62) ≤ j ∧ j < 2 ^ 62 then .ok (rngD i (j - i).toNat) w else .stuck
  | _ => .stuck
theorem reps1 {K : PySem.W.Frag} {F : Addr → Prop} {H : Hp} {vs : List V} {d : D} (h : Reps K F H vs [d]) : ∃ v, vs = [v] ∧ Rep K F H v d := by
  cases h with
  | cons h1 h2 => cases h2; exact ⟨_, rfl, h1⟩
theorem reps2 {K : PySem.W.Frag} {F : Addr → Prop} {H : Hp} {vs : List V} {d d' : D} (h : Reps K F H vs [d, d']) : ∃ v v', vs = [v, v'] ∧ Rep K F H v d ∧ Rep K F H v' d' := by
  cases h with
  | cons h1 h2 =>
    obtain ⟨v', rfl, h3⟩ := reps1 h2
    exact ⟨_, _, rfl, h1, h3⟩
theorem di_rng1 (hg : Gl X "range") (hm : X.mg "range" = none) (h : DA X T W [a] fs) (hs : starEach [a] X.env = [(false, eval a X.env)] := by rfl) : DI X T W tg (.Call (.Name "range" p) [a] [] pos) (iR1 fs) := by
  obtain ⟨ta, pa, h⟩ := h.run
  refine ⟨_, pi_range1 hg hm pa hs, fun G O w r s H R hK hT hR hs => ?_⟩
  unfold iR1 at hs
  rw [Out.sat_bind] at hs
  refine h G O w r s H _ hK hT hR (hs.mono fun ds w1 q vs H1 R1 t1 p1 => ?_)
  split at q
  · rename_i j
    split at q
    · rename_i hj
      obtain ⟨v, rfl, p2⟩ := reps1 p1
      rw [p2.int']
      exact ⟨j, rfl, hj.1, hj.2, q _ H1 R1 t1 iok_rng⟩
    · exact q.elim
  · exact q.elim
theorem di_rng2 (hg : Gl X "range") (hm : X.mg "range" = none) (h : DA X T W [a, b] fs) (hs : starEach [a, b] X.env = [(false, eval a X.env), (false, eval b X.env)] := by rfl) (hs2 : starEach [b] X.env = [(false, eval b X.env)] := by rfl) : DI X T W tg (.Call (.Name "range" p) [a, b] [] pos) (iR2 fs) := by
  obtain ⟨ta, pa, h⟩ := h.run
  refine ⟨_, pi_range2 hg hm pa hs hs2, fun G O w r s H R hK hT hR hs => ?_⟩
  unfold iR2 at hs
  rw [Out.sat_bind] at hs
  refine h G O w r s H _ hK hT hR (hs.mono fun ds w1 q vs H1 R1 t1 p1 => ?_)
  split at q
  · rename_i i j
    split at q
    · rename_i hj
      obtain ⟨v, v', rfl, p2, p3⟩ := reps2 p1
      rw [p2.int', p3.int']
      exact ⟨i, j, rfl, hj, q _ H1 R1 t1 iok_rng⟩
    · exact q.elim
  · exact q.elim
/-! zip, enumerate -/
def zipD (l m : List D) : List D := List.zipWith (fun x y => .tup [x, y]) l m
theorem iok_zip {K : PySem.W.Frag} {j k : Bool} {Fs F : Addr → Prop} {H : Hp} {a b : Addr} {xs ys : List V} {l m : List D} (ha : SqF K Fs j H a xs) (hb : SqF K Fs k H b ys) (hx : Reps K F H xs l) (hy : Reps K F H ys m) : IOk K Fs F H (ItZ K j k a b) (zipD l m) := by
  intro F1 H1 st t i
  have h1 := ha.stays st
  have h2 := hb.stays st
  have hx1 := Reps.tr t _ _ hx
  have hy1 := Reps.tr t _ _ hy
  refine ⟨fun hi => ⟨xs, ys, h1, h2, ?_⟩, fun d hd => ?_⟩
  · rw [hi, zipD, List.length_zipWith, hx.length, hy.length]
  · unfold zipD at hd
    rw [List.getElem?_zipWith] at hd
    cases el : l[i]? with
    | none => rw [el] at hd; cases hd
    | some x =>
      cases em : m[i]? with
      | none => rw [el, em] at hd; cases hd
      | some y =>
        rw [el, em] at hd
        cases hd
        obtain ⟨v, e1, e2⟩ := hx1.get el
        obtain ⟨v', e3, e4⟩ := hy1.get em
        refine ⟨⟨xs, ys, v, v', h1, h2, e1, e3⟩, fun z H2 y => ?_⟩
        obtain ⟨T, u, u', rfl, hT, rfl, q1, q2⟩ := y
        have z1 := q1 xs h1
        have z2 := q2 ys h2
        rw [e1] at z1
        rw [e3] at z2
        cases z1
        cases z2
        exact .inr ⟨T, [_, _], [_, _], hT, rfl, rfl, rfl, .cons e2 (.cons e4 .nil)⟩
def iZip (f : Sl → Om → Out (List D)) : Sl → Om → Out (List D) := fun r w => (f r w).bind fun ds w => match ds with
  | [x, y] => (match D.items x, D.items y with
    | some l, some m => .ok (zipD l m) w
    | _, _ => .stuck)
  | _ => .stuck
def enumD : Nat → List D → List D
  | _, [] => []
  | n, d :: l => .tup [.int (n : Nat), d] :: enumD (n + 1) l
theorem enumD_length : ∀ (l : List D) (n : Nat), (enumD n l).length = l.length
  | [], _ => rfl
  | d :: l, n => by unfold enumD; rw [List.length_cons, List.length_cons, enumD_length l (n + 1)]
theorem enumD_get : ∀ (l : List D) (n i : Nat), (enumD n l)[i]? = l[i]?.map fun d => .tup [.int ((n + i : Nat)), d]
  | [], n, i => by simp [enumD]
  | d :: l, n, 0 => by simp [enumD]
  | d :: l, n, i + 1 => by
    unfold enumD
    rw [List.getElem?_cons_succ, List.getElem?_cons_succ, enumD_get l (n + 1) i]
    have e : n + 1 + i = n + (i + 1) := by omega
    rw [e]
theorem iok_enum {K : PySem.W.Frag} {k : Bool} {Fs F : Addr → Prop} {H : Hp} {a : Addr} {xs : List V} {l : List D} (ha : SqF K Fs k H a xs) (hx : Reps K F H xs l) : IOk K Fs F H (ItN K k a) (enumD 0 l) := by
  intro F1 H1 st t i
  have h1 := ha.stays st
  have hx1 := Reps.tr t _ _ hx
  refine ⟨fun hi => ⟨xs, h1, ?_⟩, fun d hd => ?_⟩
  · rw [hi, enumD_length, hx.length]
  · rw [enumD_get] at hd
    cases el : l[i]? with
    | none => rw [el] at hd; cases hd
    | some x =>
      rw [el] at hd
      have hd' : d = .tup [.int ((0 + i : Nat)), x] := (Option.some.inj hd).symm
      obtain ⟨v, e1, e2⟩ := hx1.get el
      refine ⟨⟨xs, v, h1, e1⟩, fun z H2 y => ?_⟩
      obtain ⟨T, u, rfl, hT, rfl, q1⟩ := y
      have z1 := q1 xs h1
      rw [e1] at z1
      cases z1
      refine .inr ⟨T, _, [.int ((0 + i : Nat)), x], hT, rfl, rfl, hd', .cons ?_ (.cons e2 .nil)⟩
      rw [Nat.zero_add]
      exact .int _
def iEnum (f : Sl → Om → Out (List D)) : Sl → Om → Out (List D) := fun r w => (f r w).bind fun ds w => match ds with
  | [x] => (match D.items x with
    | some l => .ok (enumD 0 l) w
    | none => .stuck)
  | _ => .stuck
variable {elts : List Expr} {kk : Nat} {tpos : Pos}
theorem bi_enum (hg : Gl X "enumerate") (hm : X.mg "enumerate" = none) (h : BA X T W [e] fs) (he : starEach [e] X.env = [(false, eval e X.env)] := by rfl) : BI X T W (.Tuple elts kk tpos) (.Call (.Name "enumerate" p) [e] [] pos) (iEnum fs) := by
  obtain ⟨ta, pa, h⟩ := h.run
  refine ⟨_, pi_enumK hg hm pa he, fun G O w r s H R hK hT hR hs => ?_⟩
  unfold iEnum at hs
  rw [Out.sat_bind] at hs
  refine h G O w r s H _ hK hT hR (hs.mono fun ds w1 q vs H1 R1 t1 p1 => ?_)
  split at q
  · obtain ⟨v, rfl, p2⟩ := breps1 p1
    split at q
    · rename_i l el
      obtain ⟨k, a, xs, rfl, h2, h3⟩ := p2.sqF R1.toWor el
      rw [← hK]
      exact ⟨k, a, xs, rfl, h2.sq, q _ H1 R1 t1 (iok_enum h2 h3)⟩
    · exact q.elim
  · exact q.elim
theorem di_enum (hg : Gl X "enumerate") (hm : X.mg "enumerate" = none) (h : DA X T W [e] fs) (he : starEach [e] X.env = [(false, eval e X.env)] := by rfl) : DI X T W (.Tuple elts kk tpos) (.Call (.Name "enumerate" p) [e] [] pos) (iEnum fs) := by
  obtain ⟨ta, pa, h⟩ := h.run
  refine ⟨_, pi_enumK hg hm pa he, fun G O w r s H R hK hT hR hs => ?_⟩
  unfold iEnum at hs
  rw [Out.sat_bind] at hs
  refine h G O w r s H _ hK hT hR (hs.mono fun ds w1 q vs H1 R1 t1 p1 => ?_)
  split at q
  · obtain ⟨v, rfl, p2⟩ := reps1 p1
    split at q
    · rename_i l el
      obtain ⟨k, a, xs, rfl, h2, h3⟩ := p2.sqF el
      rw [← hK]
      exact ⟨k, a, xs, rfl, h2.sq, q _ H1 R1 t1 (iok_enum h2 h3)⟩
    · exact q.elim
  · exact q.elim
theorem bi_zip (hg : Gl X "zip") (hm : X.mg "zip" = none) (h : BA X T W [a, b] fs) (he : starEach [a, b] X.env = (false, eval a X.env) :: starEach [b] X.env := by rfl) (hpl : (backTo pos (starEach [b] X.env)).any (·.1) = false := by rfl) : BI X T W (.Tuple elts kk tpos) (.Call (.Name "zip" p) [a, b] [] pos) (iZip fs) := by
  obtain ⟨ta, pa, h⟩ := h.run
  refine ⟨_, pi_zipK hg hm pa he hpl, fun G O w r s H R hK hT hR hs => ?_⟩
  unfold iZip at hs
  rw [Out.sat_bind] at hs
  refine h G O w r s H _ hK hT hR (hs.mono fun ds w1 q vs H1 R1 t1 p1 => ?_)
  split at q
  · obtain ⟨v, v', rfl, p2, p3⟩ := breps2 p1
    split at q
    · rename_i l m el em
      obtain ⟨j, a, xs, rfl, h2, h3⟩ := p2.sqF R1.toWor el
      obtain ⟨k, b, ys, rfl, h4, h5⟩ := p3.sqF R1.toWor em
      rw [← hK]
      exact ⟨j, k, a, b, xs, ys, rfl, h2.sq, h4.sq, q _ H1 R1 t1 (iok_zip h2 h4 h3 h5)⟩
    · exact q.elim
  · exact q.elim
theorem di_zip (hg : Gl X "zip") (hm : X.mg "zip" = none) (h : DA X T W [a, b] fs) (he : starEach [a, b] X.env = (false, eval a X.env) :: starEach [b] X.env := by rfl) (hpl : (backTo pos (starEach [b] X.env)).any (·.1) = false := by rfl) : DI X T W (.Tuple elts kk tpos) (.Call (.Name "zip" p) [a, b] [] pos) (iZip fs) := by
  obtain ⟨ta, pa, h⟩ := h.run
  refine ⟨_, pi_zipK hg hm pa he hpl, fun G O w r s H R hK hT hR hs => ?_⟩
  unfold iZip at hs
  rw [Out.sat_bind] at hs
  refine h G O w r s H _ hK hT hR (hs.mono fun ds w1 q vs H1 R1 t1 p1 => ?_)
  split at q
  · obtain ⟨v, v', rfl, p2, p3⟩ := reps2 p1
    split at q
    · rename_i l m el em
      obtain ⟨j, a, xs, rfl, h2, h3⟩ := p2.sqF el
      obtain ⟨k, b, ys, rfl, h4, h5⟩ := p3.sqF em
      rw [← hK]
      exact ⟨j, k, a, b, xs, ys, rfl, h2.sq, h4.sq, q _ H1 R1 t1 (iok_zip h2 h4 h3 h5)⟩
    · exact q.elim
  · exact q.elim
/-! text -/
def strD (x : Str) : List D := x.cps.toList.map fun c => .str ⟨#[c]⟩
theorem iok_str {K : PySem.W.Frag} {Fs F : Addr → Prop} {H : Hp} {x : Str} : IOk K Fs F H (Its x) (strD x) := by
  intro F1 H1 st t i
  refine ⟨fun hi => ?_, fun d hd => ?_⟩
  · show x.cps.size ≤ i
    rw [hi, strD, List.length_map, Array.length_toList]
    exact Nat.le_refl _
  · unfold strD at hd
    rw [List.getElem?_map, Array.getElem?_toList] at hd
    cases e : x.cps[i]? with
    | none => rw [e] at hd; cases hd
    | some c =>
      rw [e] at hd
      refine ⟨(Array.getElem?_eq_some_iff.mp e).1, fun z H2 y => ?_⟩
      obtain ⟨rfl, c', e1, rfl⟩ := y
      rw [e] at e1
      cases e1
      cases hd
      exact .inl ⟨rfl, .str _⟩
def iStrD (f : Sl → Om → Out D) : Sl → Om → Out (List D) := fun r w => (f r w).bind fun d w => match d with
  | .str x => .ok (strD x) w
  | _ => .stuck
theorem di_str (h : DE X T W e f) : DI X T W tg e (iStrD f) := by
  obtain ⟨te, pe, h⟩ := h.run
  refine ⟨_, pi_str pe, fun G O w r s H R hK hT hR hs => ?_⟩
  unfold iStrD at hs
  rw [Out.sat_bind] at hs
  refine h G O w r s H _ hK hT hR (hs.mono fun d w1 q v H1 R1 t1 p1 => ?_)
  split at q
  · rename_i x
    rw [p1.str']
    exact ⟨x, rfl, q _ H1 R1 t1 iok_str⟩
  · exact q.elim
end

/-! ### loops -/
section
variable {G : Gc} {O O' : List Addr} {w w' : Om} {H H' : Hp} {r r' : Sl} {s : L2.St} {D : Ends}
/-- a name's own list given up: from here on it never changes -/
def rel (r : Sl) (i : Nat) : Sl := match r[i]? with
  | some (.o l) => r.set i (.p (.lst l))
  | _ => r
theorem Slots.rel {F : Addr → Prop} {l : List DL.D} : ∀ {O : List Addr} {s : L2.St} {r : Sl} (i : Nat), Slots G.K F H O s r → r[i]? = some (.o l) → O.Nodup →
    ∃ a O', O'.Nodup ∧ a ∈ O ∧ (∀ b ∈ O', b ∈ O ∧ b ≠ a) ∧ ∀ F' : Addr → Prop, (∀ a, F' a → F a) → ¬ F' a → Slots G.K F' H O' s (r.set i (.p (.lst l)))
  | _, _, _, _, .nil, e, _ => by simp at e
  | _, _, _, 0, .no _, e, _ => by simp at e
  | _, _, _, 0, .p _ _, e, _ => by simp at e
  | _, _, _, 0, .o (a := a) (O := O) h1 h2 h3, e, n => by
    simp at e
    subst e
    have n' := List.nodup_cons.mp n
    exact ⟨a, O, n'.2, List.mem_cons_self .., fun b hb => ⟨List.mem_cons_of_mem _ hb, fun z => n'.1 (z ▸ hb)⟩, fun F' hF na => .p (.lst h1 na (Reps.tr (tr_sub hF) _ _ h2)) (h3.tr (tr_sub hF) fun _ _ _ e => e)⟩
  | _, _, _, i + 1, .no h, e, n => by
    obtain ⟨a, O', n', m, sub, k⟩ := Slots.rel i h (by simpa using e) n
    exact ⟨a, O', n', m, sub, fun F' hF na => .no (k F' hF na)⟩
  | _, _, _, i + 1, .p h0 h, e, n => by
    obtain ⟨a, O', n', m, sub, k⟩ := Slots.rel i h (by simpa using e) n
    exact ⟨a, O', n', m, sub, fun F' hF na => .p (Rep.tr (tr_sub hF) _ _ h0) (k F' hF na)⟩
  | _, _, _, i + 1, .o (a := c) h0 h1 h, e, n => by
    have nc := List.nodup_cons.mp n
    obtain ⟨a, O', n', m, sub, k⟩ := Slots.rel i h (by simpa using e) nc.2
    refine ⟨a, c :: O', List.nodup_cons.mpr ⟨fun z => nc.1 (sub c z).1, n'⟩, List.mem_cons_of_mem _ m, fun b hb => ?_, fun F' hF na => .o h0 (Reps.tr (tr_sub hF) _ _ h1) (k F' hF na)⟩
    rcases List.mem_cons.mp hb with z | z
    · rw [z]
      exact ⟨List.mem_cons_self .., fun y => nc.1 (y ▸ m)⟩
    · exact ⟨List.mem_cons_of_mem _ (sub b z).1, (sub b z).2⟩
theorem Rel.rel (R : Rel G O w r s H) (i : Nat) : ∃ O', Rel G O' w (rel r i) s H ∧ Tr (Fx G O w) H (Fx G O' w) H := by
  unfold DL.rel
  split
  · rename_i l e
    obtain ⟨O1, n, sub, hs⟩ := R.slots
    obtain ⟨a, O2, n2, m, sub2, k⟩ := hs.rel i e n
    have sub3 : ∀ b, b ∈ O2 → b ∈ O := fun b hb => sub b (sub2 b hb).1
    have fs : ∀ b, Fx G O2 w b → Fx G O w b := fun b hb => hb.imp (sub3 b) id
    obtain ⟨d1, d2, d3⟩ := R.odis.2 a (sub a m)
    refine ⟨O2, ⟨R.toWor.drop O2 sub3 n2, O2, n2, fun _ h => h, k _ fs fun z => ?_⟩, tr_sub fs⟩
    rcases z with z | z | z | z
    · exact (sub2 a z).2 rfl
    · exact z d1
    · exact d3 z
    · exact d2 z
  · exact ⟨O, R, Tr.refl _ _⟩
end
section
variable {X : Cx} {T : Tbl} {W : WX} {tg e a b c : Expr} {st : Stmt} {body : List Stmt} {fi : Sl → Om → Out (List D)} {t : Sl → Om → Out Bool} {g h : Sl → Om → Out Res} {ids : List Nat} {bd : D → Sl → Option Sl} {pos p : Pos}
/-- a statement behind which a name's own list never changes -/
theorem ds_rel (i : Nat) (h : DS X T W st g) : DS X T W st (fun r w => g (rel r i) w) := by
  obtain ⟨ts, p, h⟩ := h.run
  refine ⟨ts, p, fun G O w r s H D hK hT R hs => ?_⟩
  obtain ⟨O', R', t'⟩ := R.rel i
  exact h G O' w _ s H D hK hT R' (OkS.trans t' hs)
def forGo (bd : D → Sl → Option Sl) (g : Sl → Om → Out Res) : List D → Sl → Om → Out Res
  | [], r, w => .ok (.nx r) w
  | d :: ds, r, w => match bd d r with
    | none => .stuck
    | some r1 => (g r1 w).bind fun res w => match res with
      | .nx r2 => forGo bd g ds r2 w
      | .ct r2 => forGo bd g ds r2 w
      | .bk r2 => .ok (.nx r2) w
      | .rt d => .ok (.rt d) w
def sFor (fi : Sl → Om → Out (List D)) (bd : D → Sl → Option Sl) (g : Sl → Om → Out Res) : Sl → Om → Out Res := fun r w => (fi r w).bind fun ds w => forGo bd g ds r w
/-- what a turn hands out, brought into the state -/
theorem YOk.rel {G : Gc} {O : List Addr} {w : Om} {H H' : Hp} {r : Sl} {s : L2.St} {x : V} {d : D} (R : Rel G O w r s H) (y : YOk G.K (Fx G O w) H x H' d) : Rel G O w r s H' ∧ TrE G w H w H' ∧ Rep G.K (Fx G O w) H' x d := by
  rcases y with ⟨rfl, h⟩ | ⟨T, xs, l, hT, rfl, rfl, rfl, h⟩
  · exact ⟨R, TrE.refl _ _ _, h⟩
  · exact new_tup R hT h
theorem ds_for (hp : PassesOwn (model X.prog X.w) X.A X.env X.xe) (hc : X.calm = true) (hi : DI X T W tg e fi) (hg : DG X tg ids bd) (hb : DSs X T W body g) (hs : ∀ x, foldedSetIterable e X.env x = pure x := by intro _; rfl) : DS X T W (.For tg e body [] pos) (sFor fi bd g) := by
  obtain ⟨wi, pi, hi⟩ := hi.run
  obtain ⟨tg', pg, hg⟩ := hg.run
  obtain ⟨tb, pb, hb⟩ := hb.run
  refine ⟨_, ps_for hp hc pi pg pb hs, fun G O w r s H D hK hT R hs => ?_⟩
  unfold sFor at hs
  rw [Out.sat_bind] at hs
  refine hi G O w r s H _ hK hT R (hs.mono fun ds w1 q J H1 R1 t1 p1 => ?_)
  refine ⟨fun i m σ Hc => i ≤ ds.length ∧ m = ds.length - i ∧ ∃ O' w' r', Rel G O' w' r' σ Hc ∧ Tr (Fx G O w1) H1 (Fx G O' w') Hc ∧ (forGo bd g (ds.drop i) r' w').Sat (OkS G O w H D) (OkX X G W), ⟨ds.length, Nat.zero_le _, rfl, O, w1, r, R1, Tr.refl _ _, q⟩, ?_⟩
  rintro i m σ Hc ⟨hi1, rfl, O', w', r', R', t', q'⟩
  have J1 := p1 _ Hc (fun a o e n => (t' a o e n).1) t' i
  by_cases he : i = ds.length
  · refine .inl ⟨J1.1 he, ?_⟩
    rw [he, List.drop_length] at q'
    exact q' O' σ Hc R' (t1.tr.trans t')
  · have hlt : i < ds.length := Nat.lt_of_le_of_ne hi1 he
    have hd : ds[i]? = some ds[i] := List.getElem?_eq_getElem hlt
    obtain ⟨hgo, hy⟩ := J1.2 _ hd
    rw [List.drop_eq_getElem_cons hlt] at q'
    unfold forGo at q'
    split at q'
    · exact q'.elim
    rename_i r1 hr1
    rw [Out.sat_bind] at q'
    refine .inr ⟨hgo, fun σ' H' => ∃ O2 w2 r2, Rel G O2 w2 r2 σ' H' ∧ Tr (Fx G O w1) H1 (Fx G O2 w2) H' ∧ (forGo bd g (ds.drop (i + 1)) r2 w2).Sat (OkS G O w H D) (OkX X G W), ?_, ?_⟩
    · rintro σ' H' ⟨O2, w2, r2, R2, t2, q2⟩
      exact ⟨ds.length - (i + 1), by omega, hlt, rfl, O2, w2, r2, R2, t2, q2⟩
    · intro x H' y
      obtain ⟨R2, t2, p2⟩ := YOk.rel R' (hy x H' y)
      refine hg G O' w' r' r1 σ H' x _ _ hK R2 p2 hr1 fun s' l' k' R3 => ?_
      refine hb G O' w' r1 s' H' _ hK hT R3 (q'.mono fun res w2 q2 => ?_)
      have t3 : Tr (Fx G O w1) H1 (Fx G O' w') H' := t'.trans t2.tr
      cases res with
      | nx r2 => exact fun O2 s2 H2 R4 t4 => ⟨O2, w2, r2, R4, t3.trans t4, q2⟩
      | ct r2 => exact fun O2 s2 H2 R4 t4 => ⟨O2, w2, r2, R4, t3.trans t4, q2⟩
      | bk r2 => exact fun O2 s2 H2 R4 t4 => q2 O2 s2 H2 R4 ((t1.tr.trans t3).trans t4)
      | rt d => exact q2
/-- while, with fuel -/
def whGo (t : Sl → Om → Out Bool) (g : Sl → Om → Out Res) : Nat → Sl → Om → Out Res
  | 0, _, _ => .stuck
  | n + 1, r, w => (t r w).bind fun b w => if b = true then (g r w).bind fun res w => (match res with
      | .nx r2 => whGo t g n r2 w
      | .ct r2 => whGo t g n r2 w
      | .bk r2 => .ok (.nx r2) w
      | .rt d => .ok (.rt d) w) else .ok (.nx r) w
theorem ds_while (n : Sl → Om → Nat) (hp : PassesOwn (model X.prog X.w) X.A X.env X.xe) (ht : DT X T W c t) (hb : DSs X T W body g) : DS X T W (.While c body [] pos) (fun r w => whGo t g (n r w) r w) := by
  obtain ⟨tc, pc, ht⟩ := ht.run
  obtain ⟨tb, pb, hb⟩ := hb.run
  refine ⟨_, ps_while hp pc pb, fun G O w r s H D hK hT R hs => ?_⟩
  refine ⟨fun m σ Hc => ∃ O' w' r', Rel G O' w' r' σ Hc ∧ Tr (Fx G O w) H (Fx G O' w') Hc ∧ (whGo t g m r' w').Sat (OkS G O w H D) (OkX X G W), ⟨n r w, O, w, r, R, Tr.refl _ _, hs⟩, ?_⟩
  rintro m σ Hc ⟨O', w', r', R', t', q'⟩
  cases m with
  | zero => exact q'.elim
  | succ m =>
    unfold whGo at q'
    rw [Out.sat_bind] at q'
    refine ht G O' w' r' σ Hc _ hK hT R' (q'.mono fun b w2 q2 H2 R2 t2 => ?_)
    cases b with
    | true =>
      rw [if_pos rfl] at q2 ⊢
      rw [Out.sat_bind] at q2
      refine ⟨fun σ' H' => ∃ O3 w3 r3, Rel G O3 w3 r3 σ' H' ∧ Tr (Fx G O w) H (Fx G O3 w3) H' ∧ (whGo t g m r3 w3).Sat (OkS G O w H D) (OkX X G W), fun σ' H' z => ⟨m, Nat.lt_succ_self _, z⟩, ?_⟩
      have t3 := t'.trans t2.tr
      refine hb G O' w2 r' σ H2 _ hK hT R2 (q2.mono fun res w4 q4 => ?_)
      cases res with
      | nx r4 => exact fun O4 s4 H4 R4 t4 => ⟨O4, w4, r4, R4, t3.trans t4, q4⟩
      | ct r4 => exact fun O4 s4 H4 R4 t4 => ⟨O4, w4, r4, R4, t3.trans t4, q4⟩
      | bk r4 => exact fun O4 s4 H4 R4 t4 => q4 O4 s4 H4 R4 (t3.trans t4)
      | rt d => exact q4
    | false =>
      rw [if_neg Bool.false_ne_true] at q2 ⊢
      exact q2 O' σ H2 R2 (t'.trans t2.tr)
end
end DL

set_option Elab.async false
set_option linter.all false
set_option maxRecDepth 100000
set_option maxHeartbeats 2000000
/-! DL10: list comprehensions. -/
namespace DL
open PySem PySem.Spec L2
open PyProof.Rows hiding St

/-- no exception comes -/
def WNo : WX := fun _ _ _ _ => False
def Out.calm {α : Type} : Out α → Out α
  | .exc _ _ _ => .stuck
  | .new k => .new fun a => (k a).calm
  | o => o
theorem Out.sat_calm {α : Type} {P : α → Om → Prop} {E E' : Exn → Sl → Om → Prop} : ∀ {o : Out α}, o.calm.Sat P E → o.Sat P E'
  | .stuck, h => h
  | .any, _ => trivial
  | .ok _ _, h => h
  | .exc _ _ _, h => h.elim
  | .new k, h => fun a => Out.sat_calm (h a)
@[simp] theorem Out.calm_ok {α : Type} {x : α} {w : Om} : (Out.ok x w).calm = .ok x w := (rfl)
@[simp] theorem Out.calm_any {α : Type} : (Out.any : Out α).calm = .any := (rfl)
@[simp] theorem Out.calm_stuck {α : Type} : (Out.stuck : Out α).calm = .stuck := (rfl)
@[simp] theorem Out.calm_frs {α : Type} {w : Om} {k : Addr → Out α} : (Out.frs w k).calm = Out.frs w fun a => (k a).calm := by
  show Out.new _ = Out.new _
  congr 1
  funext a
  show (if (w a).isNone = true then k a else .any).calm = _
  split <;> rfl
/-- a comprehension's tests -/
structure DTs (X : Cx) (T : Tbl) (W : WX) (es : List Expr) (f : Sl → Om → Out Bool) : Prop where
  run : ∃ te : TT, PTs X es te ∧ ∀ (G : Gc) (O : List Addr) (w : Om) (r : Sl) (s : L2.St) (H : Hp) (Q : Bool → Hp → Prop), G.K = X.K → G.T = T → Rel G O w r s H →
    (f r w).Sat (fun d w' => ∀ H', Rel G O w' r s H' → TrE G w H w' H' → Q d H') (OkX X G W) → te s H Q
section
variable {X : Cx} {T : Tbl} {W : WX} {c : Expr} {t : Sl → Om → Out Bool}
def tYesD : Sl → Om → Out Bool := fun _ w => .ok true w
theorem dts_nil : DTs X T W [] tYesD := ⟨_, pts_nil, fun G O w r s H Q hK hT R hs => hs H R (TrE.refl _ _ _)⟩
theorem dts_one (h : DT X T W c t) : DTs X T W [c] t := by
  obtain ⟨te, p, h⟩ := h.run
  exact ⟨te, pts_one p, h⟩
end
/-! ### one reading for all blocks -/
abbrev BlkP := Shared × Hp × Addr × List (Str × Addr) × List Addr
abbrev Bk (X : Cx) (scope : Scope) (p : BlkP) : Cx := X.blk p.1 p.2.1 scope (compEnvC scope p.2.2.2.1 p.2.2.1 X.env) p.2.2.2.2
section
variable {X : Cx} {T : Tbl} {scope : Scope} {tg elt c : Expr} {ifs : List Expr} {ids : List Nat} {bd : D → Sl → Option Sl} {f : Sl → Om → Out D} {t : Sl → Om → Out Bool}
theorem blk_de (h : ∀ p, DE (Bk X scope p) T WNo elt f) : ∃ te : TE, (∀ p, PE (Bk X scope p) elt te) ∧ ∀ (G : Gc) (O : List Addr) (w : Om) (r : Sl) (s : L2.St) (H : Hp) (Q : VK), G.K = X.K → G.T = T → Rel G O w r s H →
    (f r w).calm.Sat (fun d w' => ∀ v H', Rel G O w' r s H' → TrE G w H w' H' → Rep G.K (Fx G O w') H' v d → Q v H') (fun _ _ _ => False) → te s H Q := by
  refine ⟨fun s H Q => ∀ p, Classical.choose (h p).run s H Q, fun p => ⟨fun pins s σ H Q I k => (Classical.choose_spec (h p).run).1.run pins s σ H Q I (k p)⟩, fun G O w r s H Q hK hT R hs p => ?_⟩
  exact (Classical.choose_spec (h p).run).2 G O w r s H Q hK hT R (Out.sat_calm hs)
theorem blk_dts (h : ∀ p, DTs (Bk X scope p) T WNo ifs t) : ∃ te : TT, (∀ p, PTs (Bk X scope p) ifs te) ∧ ∀ (G : Gc) (O : List Addr) (w : Om) (r : Sl) (s : L2.St) (H : Hp) (Q : Bool → Hp → Prop), G.K = X.K → G.T = T → Rel G O w r s H →
    (t r w).calm.Sat (fun d w' => ∀ H', Rel G O w' r s H' → TrE G w H w' H' → Q d H') (fun _ _ _ => False) → te s H Q := by
  refine ⟨fun s H Q => ∀ p, Classical.choose (h p).run s H Q, fun p => ⟨fun pins s σ H Q I k => (Classical.choose_spec (h p).run).1.run pins s σ H Q I (k p)⟩, fun G O w r s H Q hK hT R hs p => ?_⟩
  exact (Classical.choose_spec (h p).run).2 G O w r s H Q hK hT R (Out.sat_calm hs)
theorem blk_dg (h : ∀ p, DG (Bk X scope p) tg ids bd) : ∃ g : TG, (∀ p, PG (Bk X scope p) tg g) ∧ ∀ (G : Gc) (O : List Addr) (w : Om) (r r' : Sl) (s : L2.St) (H : Hp) (v : V) (d : D) (Q : L2.St → Hp → Prop), G.K = X.K → Rel G O w r s H → Rep G.K (Fx G O w) H v d → bd d r = some r' →
    (∀ s', s'.length = s.length → (∀ i, i ∉ ids → s'[i]? = s[i]?) → Rel G O w r' s' H → Q s' H) → g v s H Q := by
  refine ⟨fun v s H Q => ∀ p, Classical.choose (h p).run v s H Q, fun p => ⟨fun pins s σ H v u Q I k q => (Classical.choose_spec (h p).run).1.run pins s σ H v u Q I k (q p)⟩, fun G O w r r' s H v d Q hK R hv hb q p => ?_⟩
  exact (Classical.choose_spec (h p).run).2 G O w r r' s H v d Q hK R hv hb q
end
/-- the turns of a list comprehension -/
def lcGo (bd : D → Sl → Option Sl) (t : Sl → Om → Out Bool) (f : Sl → Om → Out D) (r : Sl) : List D → Om → Out (List D)
  | [], w => .ok [] w
  | d :: ds, w => match bd d r with
    | none => .stuck
    | some r1 => (t r1 w).calm.bind fun b w => if b = true then (f r1 w).calm.bind fun y w => (lcGo bd t f r ds w).bind fun ys w => .ok (y :: ys) w else lcGo bd t f r ds w
def seLc (vs : List Nat) (fi : Sl → Om → Out (List D)) (bd : D → Sl → Option Sl) (t : Sl → Om → Out Bool) (f : Sl → Om → Out D) : Sl → Om → Out Slot := fun r w => (fi r w).bind fun ds w => if ds.length ≤ sizeLine then (lcGo bd t f (wipeD r vs) ds w).bind fun ys w => .ok (.o ys) w else .stuck
theorem wipe_wipe (s : L2.St) (vs : List Nat) : wipe (wipe s vs) vs = wipe s vs := by
  apply List.ext_getElem?
  intro i
  rw [wipe_get, wipe_get, wipe_length]
  by_cases m : i ∈ vs
  · rw [if_pos m, if_pos m]
  · rw [if_neg m, if_neg m]
/-- a tracked new list, more is appended to it -/
theorem Wor.put {G : Gc} {O : List Addr} {w : Om} {H : Hp} {D : Addr} {u : HO} (W : Wor G (D :: O) w H) : Wor G (D :: O) w (upd H D u) ∧ Tr (Fx G (D :: O) w) H (Fx G (D :: O) w) (upd H D u) := by
  have st : ∀ a, a ≠ D → upd H D u a = H a := fun a n => upd_ne n
  obtain ⟨d1, d2, d3⟩ := W.odis.2 D (List.mem_cons_self ..)
  have tr : Tr (Fx G (D :: O) w) H (Fx G (D :: O) w) (upd H D u) := fun a o e n => ⟨by rw [st a fun z => n (.inl (z ▸ List.mem_cons_self ..))]; exact e, n⟩
  refine ⟨⟨fun a o e k t => ?_, fun P hP => ?_, fun a m e => ?_, W.odis, W.wdis, fun a x => ?_, fun a m => ?_, W.ltr tr fun P hP => upd_ne fun z => d2 (z ▸ hP)⟩, tr⟩
  · obtain ⟨h1, h2, h3⟩ := W.keep a o e k t
    exact ⟨by rw [st a fun z => h3 (z ▸ List.mem_cons_self ..)]; exact h1, h2, h3⟩
  · obtain ⟨ps, e, t⟩ := W.tabs P hP
    exact ⟨ps, by rw [st P fun z => d2 (z ▸ hP)]; exact e, t⟩
  · exact (W.wok a m e).tr tr fun o q => by rw [st a fun z => by rw [z, d1] at e; cases e]; exact q
  · rw [st a fun z => d3 (z ▸ x)]
    exact W.xsome a x
  · by_cases z : a = D
    · rw [z, upd_same]; simp
    · rw [st a z]; exact W.osome a m
/-- the heart: from the turns to what tLc asks -/
theorem lc_sat {G : Gc} {O : List Addr} {w : Om} {r : Sl} {s : L2.St} {H1 : Hp} {J : It} {ds : List D} {bd : D → Sl → Option Sl} {t : Sl → Om → Out Bool} {f : Sl → Om → Out D} {g : TG} {tt : TT} {te : TE} {vs ids : List Nat} {Q : VK}
    (hg : ∀ (O : List Addr) (w : Om) (r r' : Sl) (s : L2.St) (H : Hp) (v : V) (d : D) (Q : L2.St → Hp → Prop), Rel G O w r s H → Rep G.K (Fx G O w) H v d → bd d r = some r' →
      (∀ s', s'.length = s.length → (∀ i, i ∉ ids → s'[i]? = s[i]?) → Rel G O w r' s' H → Q s' H) → g v s H Q)
    (ht : ∀ (O : List Addr) (w : Om) (r : Sl) (s : L2.St) (H : Hp) (Q : Bool → Hp → Prop), Rel G O w r s H → (t r w).calm.Sat (fun d w' => ∀ H', Rel G O w' r s H' → TrE G w H w' H' → Q d H') (fun _ _ _ => False) → tt s H Q)
    (he : ∀ (O : List Addr) (w : Om) (r : Sl) (s : L2.St) (H : Hp) (Q : VK), Rel G O w r s H → (f r w).calm.Sat (fun d w' => ∀ v H', Rel G O w' r s H' → TrE G w H w' H' → Rep G.K (Fx G O w') H' v d → Q v H') (fun _ _ _ => False) → te s H Q)
    (hids : ∀ i ∈ ids, i ∈ vs) (R1 : Rel G O w r s H1) (p1 : IOk G.K (Fx G [] w) (Fx G O w) H1 J ds) (hl : ds.length ≤ sizeLine)
    (q : (lcGo bd t f (wipeD r vs) ds w).Sat (fun ys w' => ∀ v O' H', Rel G O' w' r s H' → (∀ a ∈ O, a ∈ O') → (∀ a ∈ O', a ∈ O ∨ H1 a = none) → TrE G w H1 w' H' → SRep G O O' w' H' v (.o ys) → Q v H') (fun _ _ _ => False)) :
    ∀ D, H1 D = none → ∃ W : Nat → Nat → Hp → Prop, (∃ m, W 0 m (upd H1 D (.lst []))) ∧ ∀ i m H, W i m H →
      (J.stop i H ∧ Q (.ref D) H) ∨ (J.go i H ∧ ∃ Nx : Hp → Prop, (∀ H', Nx H' → ∃ m', m' < m ∧ W (i + 1) m' H') ∧ ∀ x H', J.yld i H x H' → g x (wipe s vs) H' fun σ2 H2 => wipe σ2 vs = wipe s vs ∧ tt σ2 H2 fun b H3 =>
        if b = true then te σ2 H3 fun y H4 => ∃ acc, H4 D = some (.lst acc) ∧ acc.length < sizeLine ∧ Nx (upd H4 D (.lst (acc ++ [y]))) else Nx H3) := by
  intro D hD
  obtain ⟨R2, t2⟩ := R1.own (xs := []) hD
  have hDw : D ∈ D :: O := List.mem_cons_self ..
  -- what holds at each turn
  let Nw : Nat → Hp → Prop := fun i Hc => ∃ acc xs w1, Rel G (D :: O) w1 r s Hc ∧ Hc D = some (.lst xs) ∧ Reps G.K (Fx G (D :: O) w1) Hc xs acc ∧ acc.length ≤ i ∧ TrE G w H1 w1 Hc ∧
    (lcGo bd t f (wipeD r vs) (ds.drop i) w1).Sat (fun ys w' => ∀ v O' H', Rel G O' w' r s H' → (∀ a ∈ O, a ∈ O') → (∀ a ∈ O', a ∈ O ∨ H1 a = none) → TrE G w H1 w' H' → SRep G O O' w' H' v (.o (acc ++ ys)) → Q v H') (fun _ _ _ => False)
  refine ⟨fun i m Hc => i ≤ ds.length ∧ m = ds.length - i ∧ Nw i Hc, ⟨ds.length, Nat.zero_le _, rfl, [], [], w, R2, upd_same, .nil, Nat.le_refl _, tre_ext (new_ext hD), by simpa using q⟩, ?_⟩
  rintro i m Hc ⟨hi1, rfl, acc, xs, w1, R', hDx, hxs, hacc, t', q'⟩
  have J1 := p1 (Fx G (D :: O) w1) Hc (fun a o e n => (t' a o e (by
    cases z : w a with
    | none => rfl
    | some m => exact absurd (.inr (.inl (by rw [z]; simp))) n) fun z => n (.inr (.inr (.inr z)))).1) (fun a o e n => by
      obtain ⟨e1, n1⟩ := t'.tr a o e n
      refine ⟨e1, fun z => ?_⟩
      rcases z with z | z
      · rcases List.mem_cons.mp z with z | z
        · rw [z, hD] at e; cases e
        · exact n1 (.inl z)
      · exact n1 (.inr z)) i
  by_cases hie : i = ds.length
  · refine .inl ⟨J1.1 hie, ?_⟩
    rw [hie, List.drop_length] at q'
    have q2 : ∀ v O' H', Rel G O' w1 r s H' → (∀ a ∈ O, a ∈ O') → (∀ a ∈ O', a ∈ O ∨ H1 a = none) → TrE G w H1 w1 H' → SRep G O O' w1 H' v (.o (acc ++ [])) → Q v H' := q'
    refine q2 _ (D :: O) Hc R' (fun a m => List.mem_cons_of_mem _ m) (fun a m => ?_) t' ⟨D, xs, rfl, hDw, (List.nodup_cons.mp R'.odis.1).1, hDx, by rw [List.append_nil]; exact hxs⟩
    rcases List.mem_cons.mp m with z | z
    · rw [z]; exact .inr hD
    · exact .inl z
  · have hlt : i < ds.length := Nat.lt_of_le_of_ne hi1 hie
    obtain ⟨hgo, hy⟩ := J1.2 _ (List.getElem?_eq_getElem hlt)
    rw [List.drop_eq_getElem_cons hlt] at q'
    unfold lcGo at q'
    split at q'
    · exact q'.elim
    rename_i r1 hr1
    rw [Out.sat_bind] at q'
    refine .inr ⟨hgo, Nw (i + 1), fun H' z => ⟨ds.length - (i + 1), by omega, hlt, rfl, z⟩, fun x H' y => ?_⟩
    obtain ⟨R3, t3, p3⟩ := YOk.rel (R'.wipe vs) (hy x H' y)
    refine hg _ _ _ r1 _ H' x _ _ R3 p3 hr1 fun s' l' k' R4 => ⟨?_, ?_⟩
    · rw [wipe_eq (s := wipe s vs) l' fun j hj => k' j fun z => hj (hids j z), wipe_wipe]
    · have keep3 : H' D = some (.lst xs) := (t3 D _ hDx (R'.odis.2 D hDw).1 (R'.odis.2 D hDw).2.1).1
      refine ht _ _ r1 s' H' _ R4 (q'.mono fun b w2 q2 H5 R5 t5 => ?_)
      have e5 : H5 D = some (.lst xs) := (t5 D _ keep3 (R'.odis.2 D hDw).1 (R'.odis.2 D hDw).2.1).1
      have x5 : Reps G.K (Fx G (D :: O) w2) H5 xs acc := Reps.tr (t3.trans t5).tr _ _ hxs
      cases b with
      | false =>
        rw [if_neg Bool.false_ne_true] at q2 ⊢
        exact ⟨acc, xs, w2, R'.of_wor R5.toWor (t3.trans t5), e5, x5, Nat.le_succ_of_le hacc, (t'.trans t3).trans t5, q2⟩
      | true =>
        rw [if_pos rfl] at q2 ⊢
        rw [Out.sat_bind] at q2
        refine he _ _ r1 s' H5 _ R5 (q2.mono fun yd w3 q3 yv H6 R6 t6 p6 => ?_)
        have hnT := (R5.odis.2 D hDw).2.1
        have e6 : H6 D = some (.lst xs) := (t6 D _ e5 (R5.odis.2 D hDw).1 hnT).1
        have x6 : Reps G.K (Fx G (D :: O) w3) H6 xs acc := Reps.tr t6.tr _ _ x5
        obtain ⟨W7, t7⟩ := R6.toWor.put (u := .lst (xs ++ [yv]))
        have R6' : Rel G (D :: O) w3 r s H6 := R'.of_wor R6.toWor ((t3.trans t5).trans t6)
        refine ⟨xs, e6, ?_, acc ++ [yd], xs ++ [yv], w3, ?_, upd_same, Reps.tr t7 _ _ (x6.append (.cons p6 .nil)), ?_, ?_, ?_⟩
        · rw [x6.length]; omega
        · -- the caller's slots know nothing of D
          have RO : Rel G O w3 r s H6 := by
            refine R1.of_wor (R6.toWor.drop O (fun a m => List.mem_cons_of_mem _ m) R1.odis.1) (((t'.trans t3).trans t5).trans t6)
          obtain ⟨O1, n1, sub1, hs1⟩ := RO.slots
          have nD : D ∉ O := (List.nodup_cons.mp R'.odis.1).1
          refine ⟨W7, O1, n1, fun a m => List.mem_cons_of_mem _ (sub1 a m), ?_⟩
          obtain ⟨O1', n1', sub1', hs1'⟩ := R6'.slots
          have eO : O1 = O1' := hs1.fn hs1'
          subst eO
          exact hs1'.tr t7 fun a m o e => by rw [upd_ne fun z => nD (by rw [← z]; exact sub1 a m)]; exact e
        · rw [List.length_append, List.length_singleton]; omega
        · have tt := ((t'.trans t3).trans t5).trans t6
          exact fun a o e n k => ⟨by rw [upd_ne (ne_of_none e hD)]; exact (tt a o e n k).1, (tt a o e n k).2⟩
        · rw [Out.sat_bind] at q3
          refine q3.mono fun ys w4 q4 => ?_
          have q5 : ∀ v O' H', Rel G O' w4 r s H' → (∀ a ∈ O, a ∈ O') → (∀ a ∈ O', a ∈ O ∨ H1 a = none) → TrE G w H1 w4 H' → SRep G O O' w4 H' v (.o (acc ++ (yd :: ys))) → Q v H' := q4
          rw [List.append_assoc]
          exact q5
section
variable {X : Cx} {T : Tbl} {W : WX} {tg elt iter : Expr} {ifs : List Expr} {scope : Scope} {own : List (Str × Nat)} {ids : List Nat} {bd : D → Sl → Option Sl} {fi : Sl → Om → Out (List D)} {f : Sl → Om → Out D} {t : Sl → Om → Out Bool} {pos : Pos}
theorem Out.Sat.noexc {α : Type} {P : α → Om → Prop} {E : Exn → Sl → Om → Prop} {o : Out α} (h : o.calm.Sat P E) : o.calm.Sat P fun _ _ _ => False := by
  induction o with
  | stuck => exact h
  | any => trivial
  | ok x w => exact h
  | exc e r w => exact h.elim
  | new k ih => exact fun a => ih a (h a)
theorem lc_calm {bd : D → Sl → Option Sl} {t : Sl → Om → Out Bool} {f : Sl → Om → Out D} {r : Sl} {E : Exn → Sl → Om → Prop} : ∀ {ds : List D} {w : Om} {P : List D → Om → Prop}, (lcGo bd t f r ds w).Sat P E → (lcGo bd t f r ds w).Sat P fun _ _ _ => False
  | [], w, P, h => h
  | d :: ds, w, P, h => by
    unfold lcGo at h ⊢
    split
    · rename_i e
      rw [e] at h
      exact h.elim
    · rename_i r1 e
      rw [e] at h
      rw [Out.sat_bind] at h ⊢
      refine (Out.Sat.noexc h).mono fun b w1 q => ?_
      cases b with
      | true =>
        rw [if_pos rfl] at q ⊢
        rw [Out.sat_bind] at q ⊢
        refine (Out.Sat.noexc q).mono fun y w2 q2 => ?_
        rw [Out.sat_bind] at q2 ⊢
        exact lc_calm q2
      | false =>
        rw [if_neg Bool.false_ne_true] at q ⊢
        exact lc_calm q
theorem lc_both (hc : X.calm = true) (hN : X.N.Nodup) (hi : BI X T W tg iter fi) (ok : BlkOk X.N X.env.scope scope own) (hg : ∀ p, DG (Bk X scope p) tg ids bd) (ht : ∀ p, DTs (Bk X scope p) T WNo ifs t) (he : ∀ p, DE (Bk X scope p) T WNo elt f) (hids : ∀ i ∈ ids, i ∈ own.map (·.2)) :
    ∃ (wi : TI) (g : TG) (tt : TT) (te : TE), PI X tg iter wi ∧ (∀ p, PG (Bk X scope p) tg g) ∧ (∀ p, PTs (Bk X scope p) ifs tt) ∧ (∀ p, PE (Bk X scope p) elt te) ∧
    ∀ (G : Gc) (O : List Addr) (w : Om) (r : Sl) (s : L2.St) (H : Hp) (Q : VK), G.K = X.K → G.T = T → Rel G O w r s H →
    (seLc (own.map (·.2)) fi bd t f r w).Sat (fun d w' => ∀ v O' H', Rel G O' w' r s H' → (∀ a ∈ O, a ∈ O') → (∀ a ∈ O', a ∈ O ∨ H a = none ∨ Fx G O w a) → TrE G w H w' H' → SRep G O O' w' H' v d → Q v H') (OkX X G W) → tLc wi g tt te (own.map (·.2)) s H Q := by
  obtain ⟨wi, pi, hi⟩ := hi.run
  obtain ⟨g, pg, hg⟩ := blk_dg hg
  obtain ⟨tt, pt, ht⟩ := blk_dts ht
  obtain ⟨te, pe, he⟩ := blk_de he
  refine ⟨wi, g, tt, te, pi, pg, pt, pe, fun G O w r s H Q hK hT R hs => ?_⟩
  unfold seLc at hs
  rw [Out.sat_bind] at hs
  refine hi G O w r s H _ hK hT R (hs.mono fun ds w1 q J H1 R1 t1 p1 => ?_)
  split at q
  · rename_i hl
    rw [Out.sat_bind] at q
    refine lc_sat (fun O w r r' s H v d Q => hg G O w r r' s H v d Q hK) (fun O w r s H Q => ht G O w r s H Q hK hT) (fun O w r s H Q => he G O w r s H Q hK hT) hids R1 p1 hl (lc_calm (q.mono fun ys w2 q2 v O' H' R2 sub new t2 p2 => ?_))
    have q3 : ∀ v O' H', Rel G O' w2 r s H' → (∀ a ∈ O, a ∈ O') → (∀ a ∈ O', a ∈ O ∨ H a = none ∨ Fx G O w a) → TrE G w H w2 H' → SRep G O O' w2 H' v (.o ys) → Q v H' := q2
    refine q3 v O' H' R2 sub (fun a m => ?_) (t1.trans t2) p2
    rcases new a m with z | z
    · exact .inl z
    · exact own_new t1 z a (List.mem_cons_self ..)
  · exact q.elim
theorem se_lc (hc : X.calm = true) (hN : X.N.Nodup) (hi : BI X T W tg iter fi) (ok : BlkOk X.N X.env.scope scope own) (hg : ∀ p, DG (Bk X scope p) tg ids bd) (ht : ∀ p, DTs (Bk X scope p) T WNo ifs t) (he : ∀ p, DE (Bk X scope p) T WNo elt f) (hids : ∀ i ∈ ids, i ∈ own.map (·.2))
    (hs : ∀ x, foldedSetIterable iter X.env x = pure x := by intro _; rfl) : SE X T W (.ListComp elt [⟨tg, iter, ifs, 0⟩] scope pos) (seLc (own.map (·.2)) fi bd t f) := by
  obtain ⟨wi, g, tt, te, pi, pg, pt, pe, h⟩ := lc_both hc hN hi ok hg ht he hids
  exact ⟨_, pe_lc hc hN pi ok (fun s H C cl fp => pg (s, H, C, cl, fp)) (fun s H C cl fp => pt (s, H, C, cl, fp)) (fun s H C cl fp => pe (s, H, C, cl, fp)) hs, h⟩
/-- name = [..], on one line -/
theorem ds_setLc {i : Nat} {y : Str} {py spos : Pos} (hc : X.calm = true) (hN : X.N.Nodup) (hi : BI X T W tg iter fi) (ok : BlkOk X.N X.env.scope scope own) (hg : ∀ p, DG (Bk X scope p) tg ids bd) (ht : ∀ p, DTs (Bk X scope p) T WNo ifs t) (he : ∀ p, DE (Bk X scope p) T WNo elt f) (hids : ∀ i ∈ ids, i ∈ own.map (·.2))
    (hy : X.N[i]? = some y := by rfl) (hyl : X.env.scope.names.lookup y = some .local := by rfl) (hsw : swapsWith (.ListComp elt [⟨tg, iter, ifs, 0⟩] scope pos) (some (.Name y py)) spos.line X.env = pure true := by rfl)
    (hs : ∀ x, foldedSetIterable iter X.env x = pure x := by intro _; rfl) : DS X T W (.Assign [.Name y py] (.ListComp elt [⟨tg, iter, ifs, 0⟩] scope pos) spos) (sAsg i (seLc (own.map (·.2)) fi bd t f)) := by
  obtain ⟨wi, g, tt, te, pi, pg, pt, pe, h⟩ := lc_both hc hN hi ok hg ht he hids
  refine ⟨_, ps_setLc hc hN hy hyl hsw pi ok (fun s H C cl fp => pg (s, H, C, cl, fp)) (fun s H C cl fp => pt (s, H, C, cl, fp)) (fun s H C cl fp => pe (s, H, C, cl, fp)) hs, fun G O w r s H D hK hT R hs => ?_⟩
  unfold sAsg at hs
  rw [Out.sat_bind] at hs
  exact h G O w r s H _ hK hT R (hs.mono fun d w1 q v O1 H1 R1 sub new t1 p1 => q O1 _ H1 (R.give R1 i p1) (t1.grow new))
/-- a fresh list, as a value -/
def eRel (f : Sl → Om → Out Slot) : Sl → Om → Out D := fun r w => (f r w).bind fun d w => match d with
  | .o l => .ok (.lst l) w
  | .p d => .ok d w
  | .no => .stuck
theorem dx_rel {e : Expr} {fs : Sl → Om → Out Slot} (h : SE X T W e fs) : DE X T W e (eRel fs) := by
  obtain ⟨te, p, h⟩ := h.run
  refine ⟨te, p, fun G O w r s H Q hK hT R hs => ?_⟩
  unfold eRel at hs
  rw [Out.sat_bind] at hs
  refine h G O w r s H Q hK hT R (hs.mono fun d w1 q v O' H' R1 sub new t1 p1 => ?_)
  have R2 : Rel G O w1 r s H' := R.of_wor (R1.toWor.drop O sub R.odis.1) t1
  have tr : Tr (Fx G O' w1) H' (Fx G O w1) H' := tr_sub fun a z => fx_grow sub z
  cases d with
  | no => exact q.elim
  | p d => exact q v H' R2 t1 (Rep.tr tr _ _ p1)
  | o l =>
    obtain ⟨a, xs, rfl, m, na, e, hx⟩ := p1
    obtain ⟨d1, d2, d3⟩ := R1.odis.2 a m
    refine q _ H' R2 t1 (.lst e (fun z => ?_) (Reps.tr tr _ _ hx))
    rcases z with z | z | z | z
    · exact na z
    · exact z d1
    · exact d3 z
    · exact d2 z
end
end DL

set_option Elab.async false
set_option linter.all false
set_option maxRecDepth 100000
set_option maxHeartbeats 2000000
/-! DL11: several names at once, stores into lists, append. -/
namespace DL
open PySem PySem.Spec L2
open PyProof.Rows hiding St

/-! ### several values given to several names -/
def setsV : L2.St → List Nat → List V → L2.St
  | s, i :: is, v :: vs => setsV (s.set i (some v)) is vs
  | s, _, _ => s
def setsS : Sl → List Nat → List Slot → Sl
  | r, i :: is, d :: ds => setsS (r.set i d) is ds
  | r, _, _ => r
structure SA (X : Cx) (T : Tbl) (W : WX) (es : List Expr) (f : Sl → Om → Out (List Slot)) : Prop where
  run : ∃ ta : TA, PA X es ta ∧ ∀ (G : Gc) (O : List Addr) (w : Om) (r : Sl) (s : L2.St) (H : Hp) (Q : List V → Hp → Prop), G.K = X.K → G.T = T → Rel G O w r s H →
    (f r w).Sat (fun ds w' => ∀ vs A O' H', Rel G O' w' r s H' → (∀ a ∈ O, a ∈ O') → (∀ a ∈ O', a ∈ O ∨ H a = none ∨ Fx G O w a) → TrE G w H w' H' →
      A.Nodup → (∀ a ∈ A, a ∈ O' ∧ a ∉ O) → Slots G.K (Fx G O' w') H' A (vs.map some) ds → Q vs H') (OkX X G W) → ta s H Q
section
variable {G : Gc} {O O' : List Addr} {w w' : Om} {H H' : Hp} {r r' : Sl} {s : L2.St}
theorem Slots.sets {K : PySem.W.Frag} {F : Addr → Prop} : ∀ (is : List Nat) {A : List Addr} {vs : List V} {ds : List Slot} {O1 : List Addr} {s : L2.St} {r : Sl}, Slots K F H A (vs.map some) ds → A.Nodup → (∀ a ∈ A, a ∉ O1) → Slots K F H O1 s r → O1.Nodup →
    ∃ O2, O2.Nodup ∧ (∀ a ∈ O2, a ∈ O1 ∨ a ∈ A) ∧ Slots K F H O2 (setsV s is vs) (setsS r is ds)
  | [], A, vs, ds, O1, s, r, h, n, dis, h1, n1 => ⟨O1, n1, fun a m => .inl m, by
      unfold setsV setsS
      exact h1⟩
  | i :: is, A, [], ds, O1, s, r, h, n, dis, h1, n1 => by
    cases h
    exact ⟨O1, n1, fun a m => .inl m, h1⟩
  | i :: is, A, v :: vs, ds, O1, s, r, h, n, dis, h1, n1 => by
    have h' : Slots K F H A (some v :: vs.map some) ds := h
    cases h' with
    | no k =>
      obtain ⟨O2, n2, sub2, k2⟩ := h1.set_no (v := some v) i n1
      obtain ⟨O3, n3, sub3, k3⟩ := Slots.sets is k n (fun a m z => dis a m (sub2 a z)) k2 n2
      exact ⟨O3, n3, fun a m => (sub3 a m).imp (sub2 a) id, k3⟩
    | p e k =>
      obtain ⟨O2, n2, sub2, k2⟩ := h1.set_p e i n1
      obtain ⟨O3, n3, sub3, k3⟩ := Slots.sets is k n (fun a m z => dis a m (sub2 a z)) k2 n2
      exact ⟨O3, n3, fun a m => (sub3 a m).imp (sub2 a) id, k3⟩
    | o e1 e2 k =>
      have nd := List.nodup_cons.mp n
      obtain ⟨O2, n2, sub2, k2⟩ := h1.set_o e1 e2 i n1 (dis _ (List.mem_cons_self ..))
      obtain ⟨O3, n3, sub3, k3⟩ := Slots.sets is k nd.2 (fun a m z => by
        rcases sub2 a z with q | q
        · exact nd.1 (q ▸ m)
        · exact dis a (List.mem_cons_of_mem _ m) q) k2 n2
      refine ⟨O3, n3, fun a m => ?_, k3⟩
      rcases sub3 a m with q | q
      · rcases sub2 a q with z | z
        · exact .inr (z ▸ List.mem_cons_self ..)
        · exact .inl z
      · exact .inr (List.mem_cons_of_mem _ q)
/-- many slots given -/
theorem Rel.gives {w0 : Om} {H0 : Hp} {vs : List V} {ds : List Slot} {A : List Addr} (R0 : Rel G O w0 r s H0) (R : Rel G O' w r s H) (is : List Nat) (n : A.Nodup) (sub : ∀ a ∈ A, a ∈ O' ∧ a ∉ O) (h : Slots G.K (Fx G O' w) H A (vs.map some) ds) :
    Rel G O' w (setsS r is ds) (setsV s is vs) H := by
  obtain ⟨O0, n0, sub0, hs0⟩ := R0.slots
  obtain ⟨O1, n1, sub1, hs1⟩ := R.slots
  have e1 : O0 = O1 := hs0.fn hs1
  subst e1
  obtain ⟨O2, n2, sub2, k2⟩ := Slots.sets is h n (fun a m z => (sub a m).2 (sub0 a z)) hs1 n1
  refine ⟨R.toWor, O2, n2, fun a m => ?_, k2⟩
  rcases sub2 a m with z | z
  · exact sub1 a z
  · exact (sub a z).1
end
section
variable {X : Cx} {T : Tbl} {W : WX} {e a b c : Expr} {es : List Expr} {st : Stmt} {f fa fb fc : Sl → Om → Out D} {fe : Sl → Om → Out Slot} {fs : Sl → Om → Out (List Slot)} {pos p : Pos} {x y z : Str}
def gNilA : Sl → Om → Out (List Slot) := fun _ w => .ok [] w
def gConsA (f : Sl → Om → Out Slot) (g : Sl → Om → Out (List Slot)) : Sl → Om → Out (List Slot) := fun r w => (f r w).bind fun d w => (g r w).bind fun ds w => .ok (d :: ds) w
theorem sa_nil : SA X T W [] gNilA := ⟨_, pa_nil, fun G O w r s H Q hK hT R hs => hs [] [] O H R (fun _ h => h) (fun _ h => .inl h) (TrE.refl _ _ _) List.nodup_nil (fun _ h => nomatch h) .nil⟩
theorem sa_cons (ha : SE X T W e fe) (hr : SA X T W es fs) (hs : starEach (e :: es) X.env = (false, eval e X.env) :: starEach es X.env := by rfl) : SA X T W (e :: es) (gConsA fe fs) := by
  obtain ⟨te, pe, ha⟩ := ha.run
  obtain ⟨ta, pa, hr⟩ := hr.run
  refine ⟨_, pa_cons pe pa hs, fun G O w r s H Q hK hT R hs => ?_⟩
  unfold gConsA at hs
  rw [Out.sat_bind] at hs
  refine ha G O w r s H _ hK hT R (hs.mono fun d w1 q v O1 H1 R1 sub1 new1 t1 p1 => ?_)
  rw [Out.sat_bind] at q
  refine hr G O1 w1 r s H1 _ hK hT R1 (q.mono fun ds w2 q2 vs A O2 H2 R2 sub2 new2 t2 n2 dis2 p2 => ?_)
  have q3 : ∀ vs A O' H', Rel G O' w2 r s H' → (∀ a ∈ O, a ∈ O') → (∀ a ∈ O', a ∈ O ∨ H a = none ∨ Fx G O w a) → TrE G w H w2 H' → A.Nodup → (∀ a ∈ A, a ∈ O' ∧ a ∉ O) → Slots G.K (Fx G O' w2) H' A (vs.map some) (d :: ds) → Q vs H' := q2
  have back : ∀ a, H1 a = none ∨ Fx G O1 w1 a → a ∈ O ∨ H a = none ∨ Fx G O w a := fun a z => by
    rcases z with z | z
    · by_cases h0 : H a = none
      · exact .inr (.inl h0)
      · by_cases hf : Fx G O w a
        · exact .inr (.inr hf)
        · obtain ⟨o, ho⟩ := Option.ne_none_iff_exists'.mp h0
          rw [(t1.tr (O := O) a o ho hf).1] at z
          cases z
    · by_cases h0 : H a = none
      · exact .inr (.inl h0)
      · by_cases hf : Fx G O w a
        · exact .inr (.inr hf)
        · obtain ⟨o, ho⟩ := Option.ne_none_iff_exists'.mp h0
          exact absurd z (t1.grow new1 a o ho hf).2
  have new : ∀ a ∈ O2, a ∈ O ∨ H a = none ∨ Fx G O w a := fun a m => by
    rcases new2 a m with z | z
    · exact new1 a z
    · exact back a z
  have sub : ∀ a ∈ O, a ∈ O2 := fun a m => sub2 a (sub1 a m)
  have dis : ∀ a ∈ A, a ∈ O2 ∧ a ∉ O := fun a m => ⟨(dis2 a m).1, fun z => (dis2 a m).2 (sub1 a z)⟩
  cases d with
  | no => exact q3 (v :: vs) A O2 H2 R2 sub new (t1.trans t2) n2 dis (.no p2)
  | p d =>
    refine q3 (v :: vs) A O2 H2 R2 sub new (t1.trans t2) n2 dis (.p ?_ p2)
    exact Rep.tr (t2.grow new2) _ _ p1
  | o l =>
    obtain ⟨a, xs, rfl, m, na, e1, hx⟩ := p1
    obtain ⟨d1, d2, d3⟩ := R1.odis.2 a m
    refine q3 (.ref a :: vs) (a :: A) O2 H2 R2 sub new (t1.trans t2) (List.nodup_cons.mpr ⟨fun z => (dis2 a z).2 m, n2⟩) (fun b mb => ?_) (.o (t2 a _ e1 d1 d2).1 ?_ p2)
    · rcases List.mem_cons.mp mb with z | z
      · rw [z]; exact ⟨sub2 a m, na⟩
      · exact dis b z
    · exact Reps.tr (t2.grow new2) _ _ hx
def sPar (is : List Nat) (fs : Sl → Om → Out (List Slot)) : Sl → Om → Out Res := fun r w => (fs r w).bind fun ds w => if ds.length = is.length then .ok (.nx (setsS r is ds)) w else .stuck
theorem Slots.len {K : PySem.W.Frag} {F : Addr → Prop} {H : Hp} : ∀ {A : List Addr} {s : L2.St} {r : Sl}, Slots K F H A s r → s.length = r.length
  | _, _, _, .nil => rfl
  | _, _, _, .no h => by rw [List.length_cons, List.length_cons, Slots.len h]
  | _, _, _, .p _ h => by rw [List.length_cons, List.length_cons, Slots.len h]
  | _, _, _, .o _ _ h => by rw [List.length_cons, List.length_cons, Slots.len h]
/-- x, y = a, b: two plain names on one line -/
theorem ds_par2 {i j : Nat} {px py pt : Pos} {kt k2 : Nat} {pt2 : Pos} (hc : X.calm = true) (hN : X.N.Nodup) (h : SA X T W [a, b] fs) (hi : X.N[i]? = some x := by rfl) (hj : X.N[j]? = some y := by rfl) (hij : i ≠ j := by decide)
    (hx : X.env.scope.names.lookup x = some .local := by rfl) (hy : X.env.scope.names.lookup y = some .local := by rfl)
    (hw : swappedStores [.Tuple [.Name x px, .Name y py] kt pt] (.Tuple [a, b] k2 pt2) X.env = pure (some [x, y]) := by rfl)
    (hs : swapsWithSole [.Tuple [.Name x px, .Name y py] kt pt] (.Tuple [a, b] k2 pt2) pos.line X.env = pure false := by rfl) : DS X T W (.Assign [.Tuple [.Name x px, .Name y py] kt pt] (.Tuple [a, b] k2 pt2) pos) (sPar [i, j] fs) := by
  obtain ⟨ta, pa, h⟩ := h.run
  refine ⟨_, ps_par hc hN hi hj hij hx hy pa hw hs, fun G O w r s H D hK hT R hs => ?_⟩
  unfold sPar at hs
  rw [Out.sat_bind] at hs
  refine h G O w r s H _ hK hT R (hs.mono fun ds w1 q vs A O1 H1 R1 sub new t1 n dis p1 => ?_)
  split at q
  · rename_i hl
    have hl2 : vs.length = 2 := by
      have := p1.len
      rw [List.length_map] at this
      rw [this, hl]
      rfl
    obtain ⟨u, v, rfl⟩ : ∃ u v, vs = [u, v] := by
      match vs, hl2 with
      | [u, v], _ => exact ⟨u, v, rfl⟩
    exact ⟨u, v, rfl, q O1 _ H1 (R.gives R1 [i, j] n dis p1) (t1.grow new)⟩
  · exact q.elim
/-- names set one after another from a tracked tuple -/
inductive Nms (X : Cx) : List Expr → List Nat → Prop
  | nil : Nms X [] []
  | cons {x : Str} {p : Pos} {i : Nat} {es : List Expr} {is : List Nat} : X.N[i]? = some x → Loc X.env.scope x → (X.fn x = true ∨ X.env.scope.names.lookup x = some .local) → (assignEach (.Name x p :: es) X.env).map (·.2) = assign (.Name x p) X.env :: (assignEach es X.env).map (·.2) → Nms X es is → Nms X (.Name x p :: es) (i :: is)
theorem nm_cons {i : Nat} {is : List Nat} (h : Nms X es is) (hi : X.N[i]? = some x := by rfl) (hx : Loc X.env.scope x := by first | exact .inl rfl | exact .inr rfl) (hf : X.fn x = true ∨ X.env.scope.names.lookup x = some .local := by first | exact .inl rfl | exact .inr rfl)
    (hs : (assignEach (.Name x p :: es) X.env).map (·.2) = assign (.Name x p) X.env :: (assignEach es X.env).map (·.2) := by rfl) : Nms X (.Name x p :: es) (i :: is) := .cons hi hx hf hs h
def gSets : List Nat → TGs
  | [] => fun vs σ H Q => vs = [] ∧ Q σ H
  | i :: is => gCons (gName i) (gSets is)
theorem nms_pgs (hN : X.N.Nodup) : ∀ {es : List Expr} {is : List Nat}, Nms X es is → PGs X es (gSets is)
  | _, _, .nil => pgs_nil
  | _, _, .cons h1 h2 h3 h4 h => pgs_cons (pg_name hN h1 h2 h3) (nms_pgs hN h) h4
theorem gSets_run : ∀ {is : List Nat} {vs : List V} {σ : L2.St} {H : Hp} {Q : L2.St → Hp → Prop}, vs.length = is.length → Q (setsV σ is vs) H → gSets is vs σ H Q
  | [], [], σ, H, Q, _, q => ⟨rfl, by unfold setsV at q; exact q⟩
  | i :: is, v :: vs, σ, H, Q, hl, q => ⟨v, vs, rfl, gSets_run (Nat.succ.inj hl) q⟩
theorem ds_parT {tes : List Expr} {is : List Nat} {kt k2 : Nat} {pt pt2 : Pos} (hc : X.calm = true) (hN : X.N.Nodup) (h : SA X T W es fs) (hm : Nms X tes is) (hz : is.length ≤ sizeLine := by decide)
    (hn : (assignEach tes X.env).length = is.length := by rfl) (hst : (assignEach tes X.env).findIdx? (·.1) = none := by rfl)
    (hw : swappedStores [.Tuple tes kt pt] (.Tuple es k2 pt2) X.env = pure none := by rfl)
    (hs : swapsWithSole [.Tuple tes kt pt] (.Tuple es k2 pt2) pos.line X.env = pure false := by rfl) (h1 : (assignEach [.Tuple tes kt pt] X.env).map (·.2) = [assign (.Tuple tes kt pt) X.env] := by rfl) : DS X T W (.Assign [.Tuple tes kt pt] (.Tuple es k2 pt2) pos) (sPar is fs) := by
  obtain ⟨ta, pa, h⟩ := h.run
  refine ⟨_, ps_asg (pe_tup pa) (pg_tup hc (nms_pgs hN hm) hn hst) hs hw h1, fun G O w r s H D hK hT R hs => ?_⟩
  unfold sPar at hs
  rw [Out.sat_bind] at hs
  refine h G O w r s H _ hK hT R (hs.mono fun ds w1 q vs A O1 H1 R1 sub new t1 n dis p1 => ?_)
  split at q
  · rename_i hl
    have hl2 : vs.length = is.length := by
      have := p1.len
      rw [List.length_map] at this
      rw [this, hl]
    have hsz : vs.length ≤ sizeLine := by rw [hl2]; exact hz
    refine ⟨hsz, fun p hp => ?_⟩
    obtain ⟨R2, t2⟩ := R1.new (o := .tup vs) hp
    refine ⟨p, vs, rfl, .inl (.inl upd_same), hl2, gSets_run hl2 ?_⟩
    have p2 : Slots G.K (Fx G O1 w1) (upd H1 p (.tup vs)) A (vs.map some) ds := p1.tr t2.tr fun a m o e => new_ext hp a o e
    exact q O1 _ _ (R.gives R2 is n dis p2) ((t1.trans t2).grow new)
  · exact q.elim
/-! three plain names on one line: stored from the right -/
def tPar3 (i j k : Nat) (ta : TA) : TS := fun D σ H => ta σ H fun vs H1 => ∃ u v w, vs = [u, v, w] ∧ D.nx (setsV σ [i, j, k] [u, v, w]) H1
theorem vals3 {xs : List V} {us : List Value} {a b c : V} (e : xs = [a, b, c]) (h : Vals xs us) : ∃ u v w, us = [u, v, w] ∧ RelV a u ∧ RelV b v ∧ RelV c w := by
  subst e
  cases h with
  | cons p q =>
    cases q with
    | cons p1 q1 =>
      cases q1 with
      | cons p2 q2 =>
        cases q2
        exact ⟨_, _, _, rfl, p, p1, p2⟩
theorem ps_par3 {i j k : Nat} {px py pz pt : Pos} {kt k2 : Nat} {pt2 : Pos} {ta : TA} (calm : X.calm = true) (nd : X.N.Nodup) (ni : X.N[i]? = some x) (nj : X.N[j]? = some y) (nk : X.N[k]? = some z) (dij : i ≠ j) (dik : i ≠ k) (djk : j ≠ k)
    (lx : X.env.scope.names.lookup x = some .local) (ly : X.env.scope.names.lookup y = some .local) (lz : X.env.scope.names.lookup z = some .local) (args : PA X [a, b, c] ta)
    (hw : swappedStores [.Tuple [.Name x px, .Name y py, .Name z pz] kt pt] (.Tuple [a, b, c] k2 pt2) X.env = pure (some [x, y, z]))
    (hs : swapsWithSole [.Tuple [.Name x px, .Name y py, .Name z pz] kt pt] (.Tuple [a, b, c] k2 pt2) pos.line X.env = pure false) :
    PS X (.Assign [.Tuple [.Name x px, .Name y py, .Name z pz] kt pt] (.Tuple [a, b, c] k2 pt2) pos) (tPar3 i j k ta) := by
  constructor
  intro pins sh σ H D inv run
  rw [exec_Assign_arm]
  apply wpAny_bind
  apply wpAny_standAt
  rw [hs]
  apply wpAny_bind
  apply wpAny_pure
  rw [if_neg (by decide)]
  apply wpAny_bind
  refine Tuple_ (thn (args.run _ pins sh σ H _ inv run) ?_)
  rintro us sh1 ⟨vs, H1, inv1, rel, v0, v1, v2, e, fin⟩
  obtain ⟨u0, u1, u2, rfl, r0, r1, r2⟩ := vals3 e rel
  refine wpAny_newObj_type ?_ (show 3 ≤ sizeLine by decide)
  have laid : Inv X pins σ H1 { sh1 with heap := sh1.heap.push { cls := .type "tuple", data := .seq [u0, u1, u2].toArray } } := inv1.kept (t' := sh1.toks) fun _ _ => Heap.get?_push_of_some _
  rw [hw]
  apply wpAny_bind
  apply wpAny_pure
  show wpAny _ _ (rule "assign.swapped-stores" >>= fun _ => unpackItems (.ref sh1.heap.objs.size) 3 none >>= fun items => assignInOrder [bindName X.env z, bindName X.env y, bindName X.env x] items.reverse >>= fun _ => pure Flow.next) _ _ _
  apply wpAny_bind
  apply wpAny_rule
  apply wpAny_bind
  refine unpackItems_tuple (items := #[u0, u1, u2]) (inv.ok.hd calm) (IsTup.new sh1.heap _) ?_
  intro hp' same
  have inv3 := laid.kept (h' := hp') (t' := sh1.toks) fun b o q => same b o (Nat.ne_of_lt (Heap.lt_size q)) q
  apply wpAny_bind
  show wpAny _ _ (assignInOrder [bindName X.env z, bindName X.env y, bindName X.env x] [u2, u1, u0]) _ _ _
  refine assignInOrder_cons (wpAny_bindName (store_ok inv3 nd nk (.inl lz) r2 (fun sh4 inv4 => ?_) (.inr lz)))
  refine assignInOrder_cons (wpAny_bindName (store_ok inv4 nd nj (.inl ly) r1 (fun sh5 inv5 => ?_) (.inr ly)))
  refine assignInOrder_cons (wpAny_bindName (store_ok inv5 nd ni (.inl lx) r0 (fun sh6 inv6 => assignInOrder_nil (wpAny_pure ?_)) (.inr lx)))
  refine ⟨_, H1, ?_, fin⟩
  have e1 : setsV σ [i, j, k] [v0, v1, v2] = ((σ.set k (some v2)).set j (some v1)).set i (some v0) := by
    show ((σ.set i (some v0)).set j (some v1)).set k (some v2) = _
    rw [List.set_comm _ _ djk, List.set_comm _ _ dik, List.set_comm _ _ dij]
  rw [e1]
  exact inv6
theorem ds_par3 {i j k : Nat} {px py pz pt : Pos} {kt k2 : Nat} {pt2 : Pos} (hc : X.calm = true) (hN : X.N.Nodup) (h : SA X T W [a, b, c] fs) (hi : X.N[i]? = some x := by rfl) (hj : X.N[j]? = some y := by rfl) (hk : X.N[k]? = some z := by rfl) (hij : i ≠ j := by decide) (hik : i ≠ k := by decide) (hjk : j ≠ k := by decide)
    (hx : X.env.scope.names.lookup x = some .local := by rfl) (hy : X.env.scope.names.lookup y = some .local := by rfl) (hz : X.env.scope.names.lookup z = some .local := by rfl)
    (hw : swappedStores [.Tuple [.Name x px, .Name y py, .Name z pz] kt pt] (.Tuple [a, b, c] k2 pt2) X.env = pure (some [x, y, z]) := by rfl)
    (hs : swapsWithSole [.Tuple [.Name x px, .Name y py, .Name z pz] kt pt] (.Tuple [a, b, c] k2 pt2) pos.line X.env = pure false := by rfl) : DS X T W (.Assign [.Tuple [.Name x px, .Name y py, .Name z pz] kt pt] (.Tuple [a, b, c] k2 pt2) pos) (sPar [i, j, k] fs) := by
  obtain ⟨ta, pa, h⟩ := h.run
  refine ⟨_, ps_par3 hc hN hi hj hk hij hik hjk hx hy hz pa hw hs, fun G O w r s H D hK hT R hs => ?_⟩
  unfold sPar at hs
  rw [Out.sat_bind] at hs
  refine h G O w r s H _ hK hT R (hs.mono fun ds w1 q vs A O1 H1 R1 sub new t1 n dis p1 => ?_)
  split at q
  · rename_i hl
    have hl2 : vs.length = 3 := by
      have := p1.len
      rw [List.length_map] at this
      rw [this, hl]
      rfl
    obtain ⟨u, v, v2, rfl⟩ : ∃ u v v2, vs = [u, v, v2] := by
      match vs, hl2 with
      | [u, v, v2], _ => exact ⟨u, v, v2, rfl⟩
    exact ⟨u, v, v2, rfl, q O1 _ H1 (R.gives R1 [i, j, k] n dis p1) (t1.grow new)⟩
  · exact q.elim
/-- targets = a tuple -/
def sTup (f : Sl → Om → Out D) (bd : D → Sl → Option Sl) : Sl → Om → Out Res := fun r w => (f r w).bind fun d w => match bd d r with
  | some r' => .ok (.nx r') w
  | none => .stuck
theorem ds_tup {tg : Expr} {ids : List Nat} {bd : D → Sl → Option Sl} (he : DE X T W e f) (hg : DG X tg ids bd) (hs : swapsWithSole [tg] e pos.line X.env = pure false := by rfl) (hw : swappedStores [tg] e X.env = pure none := by rfl)
    (h1 : (assignEach [tg] X.env).map (·.2) = [assign tg X.env] := by rfl) : DS X T W (.Assign [tg] e pos) (sTup f bd) := by
  obtain ⟨te, pe, he⟩ := he.run
  obtain ⟨g, pg, hg⟩ := hg.run
  refine ⟨_, ps_asg pe pg hs hw h1, fun G O w r s H D hK hT R hs => ?_⟩
  unfold sTup at hs
  rw [Out.sat_bind] at hs
  refine he G O w r s H _ hK hT R (hs.mono fun d w1 q v H1 R1 t1 p1 => ?_)
  split at q
  · rename_i r' e'
    exact hg G O w1 r r' s H1 v d _ hK R1 p1 e' fun s' l k R2 => q O s' H1 R2 t1.tr
  · exact q.elim
end

/-! ### a list changed -/
section
variable {G : Gc} {O O' : List Addr} {w w' : Om} {H H' : Hp} {r r' : Sl} {s : L2.St}
/-- all but one address stands -/
theorem Wor.mutO {a : Addr} {u : HO} (W : Wor G O w H) (m : a ∈ O) : Wor G O w (upd H a u) ∧ Tr (Fx G O w) H (Fx G O w) (upd H a u) := by
  obtain ⟨d1, d2, d3⟩ := W.odis.2 a m
  have st : ∀ b, b ≠ a → upd H a u b = H b := fun b n => upd_ne n
  have tr : Tr (Fx G O w) H (Fx G O w) (upd H a u) := fun b o e n => ⟨by rw [st b fun z => n (.inl (z ▸ m))]; exact e, n⟩
  refine ⟨⟨fun b o e k t => ?_, fun P hP => ?_, fun b mo e => ?_, W.odis, W.wdis, fun b x => ?_, fun b mb => ?_, W.ltr tr fun P hP => upd_ne fun z => d2 (z ▸ hP)⟩, tr⟩
  · obtain ⟨h1, h2, h3⟩ := W.keep b o e k t
    exact ⟨by rw [st b fun z => h3 (z ▸ m)]; exact h1, h2, h3⟩
  · obtain ⟨ps, e, t⟩ := W.tabs P hP
    exact ⟨ps, by rw [st P fun z => d2 (z ▸ hP)]; exact e, t⟩
  · exact (W.wok b mo e).tr tr fun o q => by rw [st b fun z => by rw [z, d1] at e; cases e]; exact q
  · rw [st b fun z => d3 (z ▸ x)]
    exact W.xsome b x
  · by_cases z : b = a
    · rw [z, upd_same]; simp
    · rw [st b z]; exact W.osome b mb
theorem upd_get {H : Hp} {a b : Addr} {o u : HO} (e : H b = some o) (n : b ≠ a) : upd H a u b = some o := by rw [upd_ne n]; exact e
/-- the slot's own list becomes another one -/
theorem Slots.mut {K : PySem.W.Frag} {F : Addr → Prop} {l l' : List DL.D} : ∀ {O : List Addr} {s : L2.St} {r : Sl} (i : Nat), Slots K F H O s r → r[i]? = some (.o l) → O.Nodup → (∀ a ∈ O, F a) →
    ∃ a xs, a ∈ O ∧ s[i]? = some (some (.ref a)) ∧ H a = some (.lst xs) ∧ Reps K F H xs l ∧ ∀ xs', Reps K F H xs' l' → Slots K F (upd H a (.lst xs')) O s (r.set i (.o l'))
  | _, _, _, _, .nil, e, _, _ => by simp at e
  | _, _, _, 0, .no _, e, _, _ => by simp at e
  | _, _, _, 0, .p _ _, e, _, _ => by simp at e
  | _, _, _, 0, .o (a := a) (xs := xs) (O := O) h1 h2 h3, e, n, hF => by
    simp at e
    subst e
    have n' := List.nodup_cons.mp n
    have fa : F a := hF a (List.mem_cons_self ..)
    have tr : ∀ xs', Tr F H F (upd H a (.lst xs')) := fun xs' b o e nb => ⟨upd_get e fun z => nb (z ▸ fa), nb⟩
    refine ⟨a, xs, List.mem_cons_self .., rfl, h1, h2, fun xs' hx => .o upd_same (Reps.tr (tr xs') _ _ hx) ?_⟩
    exact Slots.tr (G := ⟨K, ⟨[], [], fun _ _ _ _ => False, fun _ _ _ _ _ _ _ _ z => z, fun _ _ _ _ z => z.elim⟩, H, fun _ => none, fun _ => False⟩) (tr xs') (fun b mb o e => upd_get e fun z => n'.1 (z ▸ mb)) h3
  | _, _, _, i + 1, .no h, e, n, hF => by
    obtain ⟨a, xs, m, k1, k2, k3, k4⟩ := Slots.mut (l' := l') i h (by simpa using e) n hF
    exact ⟨a, xs, m, by simpa using k1, k2, k3, fun xs' hx => .no (k4 xs' hx)⟩
  | _, _, _, i + 1, .p h0 h, e, n, hF => by
    obtain ⟨a, xs, m, k1, k2, k3, k4⟩ := Slots.mut (l' := l') i h (by simpa using e) n hF
    have fa : F a := hF a m
    exact ⟨a, xs, m, by simpa using k1, k2, k3, fun xs' hx => .p (Rep.tr (fun b o e nb => ⟨upd_get e fun z => nb (z ▸ fa), nb⟩) _ _ h0) (k4 xs' hx)⟩
  | _, _, _, i + 1, .o (a := c) h0 h1 h, e, n, hF => by
    have nc := List.nodup_cons.mp n
    obtain ⟨a, xs, m, k1, k2, k3, k4⟩ := Slots.mut (l' := l') i h (by simpa using e) nc.2 (fun b mb => hF b (List.mem_cons_of_mem _ mb))
    have fa : F a := hF a (List.mem_cons_of_mem _ m)
    exact ⟨a, xs, List.mem_cons_of_mem _ m, by simpa using k1, k2, k3, fun xs' hx => .o (upd_get h0 fun z => nc.1 (z ▸ m)) (Reps.tr (fun b o e nb => ⟨upd_get e fun z => nb (z ▸ fa), nb⟩) _ _ h1) (k4 xs' hx)⟩
theorem Rel.mut {l l' : List DL.D} (R : Rel G O w r s H) (i : Nat) (e : r[i]? = some (.o l)) : ∃ a xs, a ∈ O ∧ s[i]? = some (some (.ref a)) ∧ H a = some (.lst xs) ∧ Reps G.K (Fx G O w) H xs l ∧
    ∀ xs', Reps G.K (Fx G O w) H xs' l' → Rel G O w (r.set i (.o l')) s (upd H a (.lst xs')) ∧ Tr (Fx G O w) H (Fx G O w) (upd H a (.lst xs')) := by
  obtain ⟨O1, n, sub, hs⟩ := R.slots
  obtain ⟨a, xs, m, k1, k2, k3, k4⟩ := Slots.mut (l' := l') i hs e n fun b mb => .inl (sub b mb)
  refine ⟨a, xs, sub a m, k1, k2, k3, fun xs' hx => ?_⟩
  obtain ⟨W2, t2⟩ := R.toWor.mutO (u := .lst xs') (sub a m)
  exact ⟨⟨W2, O1, n, sub, k4 xs' hx⟩, t2⟩
/-- a thing of the world becomes another one -/
theorem Rel.mutW {a : Addr} {u : HO} {mo mo' : MO} (R : Rel G O w r s H) (hm : w a = some mo) (hu : ∀ H', (∀ b o, H b = some o → ¬ Fx G O w b → H' b = some o) → H' a = some u → MOk G.T G.K (Fx G O w) H' a mo') :
    Rel G O (w.set a mo') r s (upd H a u) ∧ TrE G w H (w.set a mo') (upd H a u) := by
  have fa : Fx G O w a := .inr (.inl (by rw [hm]; simp))
  have fxe : ∀ b, Fx G O (w.set a mo') b ↔ Fx G O w b := fun b => by
    have : (w.set a mo' b ≠ none) ↔ (w b ≠ none) := by
      by_cases z : b = a
      · rw [z, Om.set_same, hm]; simp
      · rw [Om.set_ne z]
    exact or_congr Iff.rfl (or_congr this Iff.rfl)
  have fxeq : Fx G O (w.set a mo') = Fx G O w := funext fun b => propext (fxe b)
  have st : ∀ b, b ≠ a → upd H a u b = H b := fun b n => upd_ne n
  have hT : a ∉ G.T := (R.wdis a (by rw [hm]; simp)).1
  have hX : ¬ G.Xs a := (R.wdis a (by rw [hm]; simp)).2
  have hO : a ∉ O := fun z => by
    have := (R.odis.2 a z).1
    rw [hm] at this
    cases this
  have tre : TrE G w H (w.set a mo') (upd H a u) := fun b o e n t => by
    have ne : b ≠ a := fun z => by rw [z, hm] at n; cases n
    exact ⟨by rw [st b ne]; exact e, by rw [Om.set_ne ne]; exact n⟩
  refine ⟨R.of_wor ⟨fun b o e k t => ?_, fun P hP => ?_, fun b m e => ?_, ⟨R.odis.1, fun b mb => ?_⟩, fun b n => ?_, fun b x => ?_, fun b mb => ?_, R.ltr tre.tr fun P hP => upd_ne fun z => hT (z ▸ hP)⟩ tre, tre⟩
  · obtain ⟨h1, h2, h3⟩ := R.keep b o e k t
    have ne : b ≠ a := fun z => by rw [z, hm] at h2; cases h2
    exact ⟨by rw [st b ne]; exact h1, by rw [Om.set_ne ne]; exact h2, h3⟩
  · obtain ⟨ps, e, t⟩ := R.tabs P hP
    exact ⟨ps, by rw [st P fun z => hT (z ▸ hP)]; exact e, t⟩
  · rw [fxeq]
    by_cases z : b = a
    · subst z
      rw [Om.set_same] at e
      cases e
      exact hu _ (fun c o q n => by rw [st c fun z => n (z ▸ fa)]; exact q) upd_same
    · rw [Om.set_ne z] at e
      exact (R.wok b m e).tr (fun c o q n => ⟨by rw [st c fun z => n (z ▸ fa)]; exact q, n⟩) fun o q => by rw [st b z]; exact q
  · obtain ⟨d1, d2, d3⟩ := R.odis.2 b mb
    exact ⟨by rw [Om.set_ne (show b ≠ a from fun z => hO (z ▸ mb))]; exact d1, d2, d3⟩
  · by_cases z : b = a
    · rw [z]; exact ⟨hT, hX⟩
    · rw [Om.set_ne z] at n; exact R.wdis b n
  · rw [st b fun z => hX (z ▸ x)]; exact R.xsome b x
  · rw [st b fun z => hO (z ▸ mb)]; exact R.osome b mb
end
end DL

set_option Elab.async false
set_option linter.all false
set_option maxRecDepth 100000
set_option maxHeartbeats 2000000
/-! DL12: stores into lists, append, pop; lists of the world. -/
namespace DL
open PySem PySem.Spec L2
open PyProof.Rows hiding St

section
variable {X : Cx} {T : Tbl} {W : WX} {e a b c o i : Expr} {es : List Expr} {f fo fi fa fb : Sl → Om → Out D} {fe : Sl → Om → Out Slot} {fs : Sl → Om → Out (List D)} {pos p p1 p2 p3 p4 : Pos} {x y z : Str}
/-! ### own lists -/
def sSubO (n : Nat) (f fi : Sl → Om → Out D) : Sl → Om → Out Res := fun r w => (f r w).bind fun d w => match r[n]? with
  | some (.o l) => (fi r w).bind fun k w => (match k with
    | .int k => (match ixN l.length k with
      | some j => .ok (.nx (r.set n (.o (l.set j d)))) w
      | none => .stuck)
    | _ => .stuck)
  | _ => .stuck
theorem ds_subO (n : Nat) (he : DE X T W e f) (hi : DE X T W i fi) (hN : X.N[n]? = some x := by rfl) (hv : Vis X.env.scope x := by first | exact Or.inl rfl | exact Or.inr (Or.inl rfl) | exact Or.inr (Or.inr rfl)) (hd : (x == ("__debug__" : Str)) = false := by decide)
    (hcd : (x == ("__classdict__" : Str)) = false := by decide)
    (hs : swapsWithSole [.Subscript (.Name x p1) i p2] e pos.line X.env = pure false := by rfl) (hw : swappedStores [.Subscript (.Name x p1) i p2] e X.env = pure none := by rfl)
    (h1 : (assignEach [.Subscript (.Name x p1) i p2] X.env).map (·.2) = [assign (.Subscript (.Name x p1) i p2) X.env] := by rfl)
    (ha : ∀ v, assign (.Subscript (.Name x p1) i p2) X.env v = (do
      let ov ← holding [v] (eval (.Name x p1) X.env)
      let iv ← holding [v, ov] (eval i X.env)
      standAt p2
      holding [v, ov, iv] (setItem ov iv v)
      release [v, ov, iv] []) := by intro _; rfl) : DS X T W (.Assign [.Subscript (.Name x p1) i p2] e pos) (sSubO n f fi) := by
  obtain ⟨te, pe, he⟩ := he.run
  obtain ⟨ti, pi, hi⟩ := hi.run
  refine ⟨_, ps_asg pe (pg_sub (pv n hN hv hd hcd) pi set_list ha) hs hw h1, fun G O w r s H D hK hT R hs => ?_⟩
  unfold sSubO at hs
  rw [Out.sat_bind] at hs
  refine he G O w r s H _ hK hT R (hs.mono fun d w1 q v H1 R1 t1 p1 => ?_)
  split at q
  · rename_i l hr
    rw [Out.sat_bind] at q
    obtain ⟨a0, xs0, g1, g2, g3, g4⟩ := R1.get_o hr
    refine ⟨.ref a0, g1, ?_⟩
    refine hi G O w1 r s H1 _ hK hT R1 (q.mono fun k w2 q2 kv H2 R2 t2 p2 => ?_)
    split at q2
    · rename_i k2
      split at q2
      · rename_i j hj
        obtain ⟨a1, xs1, m1, m2, m3, m4, m5⟩ := R2.mut (l' := l.set j d) n hr
        rw [g1] at m2
        cases m2
        obtain ⟨R3, t3⟩ := m5 (xs1.set j v) (m4.set j (Rep.tr t2.tr _ _ p1))
        exact ⟨a0, xs1, k2, j, rfl, p2.int', m3, by rw [m4.length]; exact hj, q2 O s _ R3 ((t1.trans t2).tr.trans t3)⟩
      · exact q2.elim
    · exact q2.elim
  · exact q.elim
/-- x.append(e), the list x's own -/
def sAppO (n : Nat) (f : Sl → Om → Out D) : Sl → Om → Out Res := fun r w => match r[n]? with
  | some (.o l) => (f r w).bind fun d w => if l.length < sizeLine then .ok (.nx (r.set n (.o (l ++ [d])))) w else .stuck
  | _ => .stuck
theorem own_ty {K : PySem.W.Frag} {H : Hp} {a : Addr} {xs : List V} (e : H a = some (.lst xs)) : tyV K "list" (.ref a) H := .inl ⟨rfl, _, SqL.of e⟩
theorem ds_appO (n : Nat) (he : DE X T W e f) (hN : X.N[n]? = some x := by rfl) (hv : Vis X.env.scope x := by first | exact Or.inl rfl | exact Or.inr (Or.inl rfl) | exact Or.inr (Or.inr rfl)) (hd : (x == ("__debug__" : Str)) = false := by decide)
    (hcd : (x == ("__classdict__" : Str)) = false := by decide)
    (hbase : attributeBase (.Name x p1) "append" X.env (eval (.Name x p1) X.env) = eval (.Name x p1) X.env := by rfl)
    (hfew : ((backTo p3 (starEach [e] X.env)).all (fun x => !x.1) && (backToKw p3 (keywordEach [] X.env)).all (fun x => x.1.isSome)
      && decide ([e].length + ([] : List Keyword).length + (if ([] : List Keyword).isEmpty then 0 else 1) < 30)) = true := by rfl)
    (hline : (p2.endLine == p3.line) = true := by rfl) (hst : starEach [e] X.env = (false, eval e X.env) :: starEach [] X.env := by rfl) (hplain : (backTo p3 (starEach [] X.env)).any (·.1) = false := by rfl)
    (hs : swapsWith (.Call (.Attribute (.Name x p1) "append" p2) [e] [] p3) none pos.line X.env = pure false := by rfl) : DS X T W (.Expr (.Call (.Attribute (.Name x p1) "append" p2) [e] [] p3) pos) (sAppO n f) := by
  obtain ⟨te, pe, he⟩ := he.run
  refine ⟨_, ps_expr (pe_bm PySem.F.plainAttrs_list PySem.F.slot_list_append PySem.F.type_list_append mt_append (pv n hN hv hd hcd) (pa_cons pe pa_nil hst) hbase hfew hline hst hplain) hs, fun G O w r s H D hK hT R hs => ?_⟩
  unfold sAppO at hs
  split at hs
  · rename_i l hr
    rw [Out.sat_bind] at hs
    obtain ⟨a0, xs0, g1, g2, g3, g4⟩ := R.get_o hr
    refine ⟨.ref a0, g1, own_ty g3, ?_⟩
    refine he G O w r s H _ hK hT R (hs.mono fun d w1 q v H1 R1 t1 p1 => ?_)
    split at q
    · rename_i hl
      obtain ⟨a1, xs1, m1, m2, m3, m4, m5⟩ := R1.mut (l' := l ++ [d]) n hr
      rw [g1] at m2
      cases m2
      obtain ⟨R3, t3⟩ := m5 (xs1 ++ [v]) (m4.append (.cons p1 .nil))
      exact ⟨a0, xs1, v, rfl, rfl, m3, by rw [m4.length]; exact hl, q O s _ R3 (t1.tr.trans t3)⟩
    · exact q.elim
  · exact hs.elim
/-! ### lists of the world -/
/-- a display, kept as a thing of the world: its address is a value -/
def seW (f : Sl → Om → Out (List D)) : Sl → Om → Out D := fun r w => (f r w).bind fun ds w => if ds.length ≤ sizeLine then .frs w fun a => .ok (.ref a) (w.set a (.lst ds)) else .stuck
theorem Rel.wnone {G : Gc} {O : List Addr} {w : Om} {H : Hp} {r : Sl} {s : L2.St} {a : Addr} (R : Rel G O w r s H) (ha : H a = none) : w a = none := by
  cases e : w a with
  | none => rfl
  | some m => exact absurd (Or.inr (Or.inl (by rw [e]; simp))) (R.fresh ha)
theorem Rel.neww {G : Gc} {O : List Addr} {w : Om} {H : Hp} {r : Sl} {s : L2.St} {a : Addr} {u : HO} {mo : MO} (R : Rel G O w r s H) (ha : H a = none)
    (hu : ∀ F' H', Tr (Fx G O w) H F' H' → H' a = some u → MOk G.T G.K F' H' a mo) : Rel G O (w.set a mo) r s (upd H a u) ∧ TrE G w H (w.set a mo) (upd H a u) := by
  have nF : ¬ Fx G O w a := R.fresh ha
  have hT : a ∉ G.T := fun z => nF (.inr (.inr (.inr z)))
  have hX : ¬ G.Xs a := fun z => nF (.inr (.inr (.inl z)))
  have hO : a ∉ O := fun z => nF (.inl z)
  have st : ∀ b o, H b = some o → upd H a u b = some o := new_ext ha
  have tre : TrE G w H (w.set a mo) (upd H a u) := fun b o e n t => by
    have ne : b ≠ a := ne_of_none e ha
    exact ⟨st b o e, by rw [Om.set_ne ne]; exact n⟩
  refine ⟨R.of_wor ⟨fun b o e k t => ?_, fun P hP => ?_, fun b m e => ?_, ⟨R.odis.1, fun b mb => ?_⟩, fun b n => ?_, fun b x => ?_, fun b mb => ?_, R.ltr tre.tr fun P hP => upd_ne fun z => hT (z ▸ hP)⟩ tre, tre⟩
  · obtain ⟨h1, h2, h3⟩ := R.keep b o e k t
    exact ⟨st b o h1, by rw [Om.set_ne (ne_of_none h1 ha)]; exact h2, h3⟩
  · obtain ⟨ps, e, t⟩ := R.tabs P hP
    exact ⟨ps, st _ _ e, t⟩
  · by_cases z : b = a
    · subst z
      rw [Om.set_same] at e
      cases e
      exact hu _ _ tre.tr upd_same
    · rw [Om.set_ne z] at e
      exact (R.wok b m e).tr tre.tr fun o q => st b o q
  · obtain ⟨d1, d2, d3⟩ := R.odis.2 b mb
    exact ⟨by rw [Om.set_ne (show b ≠ a from fun z => hO (z ▸ mb))]; exact d1, d2, d3⟩
  · by_cases z : b = a
    · rw [z]; exact ⟨hT, hX⟩
    · rw [Om.set_ne z] at n; exact R.wdis b n
  · have := R.xsome b x
    obtain ⟨q, hq⟩ := Option.ne_none_iff_exists'.mp this
    rw [st b q hq]
    simp
  · have := R.osome b mb
    obtain ⟨q, hq⟩ := Option.ne_none_iff_exists'.mp this
    rw [st b q hq]
    simp
theorem dx_new (h : DA X T W es fs) : DE X T W (.List es pos) (seW fs) := by
  obtain ⟨ta, pa, h⟩ := h.run
  refine ⟨_, pe_lst pa, fun G O w r s H Q hK hT R hs => ?_⟩
  unfold seW at hs
  rw [Out.sat_bind] at hs
  refine h G O w r s H _ hK hT R (hs.mono fun ds w1 q vs H1 R1 t1 p1 => ?_)
  split at q
  · rename_i hl
    refine ⟨by rw [p1.length]; exact hl, fun p hp => ?_⟩
    obtain ⟨R2, t2⟩ := R1.neww (u := .lst vs) (mo := .lst ds) hp fun F' H' t e => ⟨vs, e, Reps.tr t _ _ p1⟩
    have q2 : ∀ v H', Rel G O (w1.set p (.lst ds)) r s H' → TrE G w H (w1.set p (.lst ds)) H' → Rep G.K (Fx G O (w1.set p (.lst ds))) H' v (.ref p) → Q v H' := Out.sat_frs.mp q p (R1.wnone hp)
    exact q2 _ _ R2 (t1.trans t2) (.ref p)
  · exact q.elim
/-- the list at a handle -/
def wLst (w : Om) (d : D) : Option (Addr × List D) := match d with
  | .ref a => (match w a with
    | some (.lst l) => some (a, l)
    | _ => none)
  | _ => none
theorem wLst_eq {w : Om} {d : D} {a : Addr} {l : List D} (h : wLst w d = some (a, l)) : d = .ref a ∧ w a = some (.lst l) := by
  unfold wLst at h
  split at h
  · split at h
    · rename_i e
      cases h
      exact ⟨rfl, e⟩
    · cases h
  · cases h
theorem Rel.wl {G : Gc} {O : List Addr} {w : Om} {H : Hp} {r : Sl} {s : L2.St} {v : V} {d : D} {a : Addr} {l : List D} (R : Rel G O w r s H) (h : wLst w d = some (a, l)) (p : Rep G.K (Fx G O w) H v d) : v = .ref a ∧ w a = some (.lst l) ∧ ∃ xs, H a = some (.lst xs) ∧ Reps G.K (Fx G O w) H xs l := by
  obtain ⟨rfl, e⟩ := wLst_eq h
  exact ⟨p.ref', e, R.wok a _ e⟩
theorem Rel.setL {G : Gc} {O : List Addr} {w : Om} {H : Hp} {r : Sl} {s : L2.St} {a : Addr} {l l' : List D} {xs' : List V} (R : Rel G O w r s H) (e : w a = some (.lst l)) (h : Reps G.K (Fx G O w) H xs' l') : Rel G O (w.set a (.lst l')) r s (upd H a (.lst xs')) ∧ TrE G w H (w.set a (.lst l')) (upd H a (.lst xs')) :=
  R.mutW e fun H' st e' => ⟨xs', e', Reps.tr (fun b o q n => ⟨st b o q n, n⟩) _ _ h⟩
/-- o[i] = e, o a handle -/
def sSubW (f fo fi : Sl → Om → Out D) : Sl → Om → Out Res := fun r w => (f r w).bind fun d w => (fo r w).bind fun h w => (fi r w).bind fun k w => match wLst w h, k with
  | some (a, l), .int k => (match ixN l.length k with
      | some j => .ok (.nx r) (w.set a (.lst (l.set j d)))
      | none => .stuck)
  | _, _ => .stuck
theorem ds_subW (he : DE X T W e f) (ho : DE X T W o fo) (hi : DE X T W i fi)
    (hs : swapsWithSole [.Subscript o i p2] e pos.line X.env = pure false := by rfl) (hw : swappedStores [.Subscript o i p2] e X.env = pure none := by rfl)
    (h1 : (assignEach [.Subscript o i p2] X.env).map (·.2) = [assign (.Subscript o i p2) X.env] := by rfl)
    (ha : ∀ v, assign (.Subscript o i p2) X.env v = (do
      let ov ← holding [v] (eval o X.env)
      let iv ← holding [v, ov] (eval i X.env)
      standAt p2
      holding [v, ov, iv] (setItem ov iv v)
      release [v, ov, iv] []) := by intro _; rfl) : DS X T W (.Assign [.Subscript o i p2] e pos) (sSubW f fo fi) := by
  obtain ⟨te, pe, he⟩ := he.run
  obtain ⟨to, po, ho⟩ := ho.run
  obtain ⟨ti, pi, hi⟩ := hi.run
  refine ⟨_, ps_asg pe (pg_sub po pi set_list ha) hs hw h1, fun G O w r s H D hK hT R hs => ?_⟩
  unfold sSubW at hs
  rw [Out.sat_bind] at hs
  refine he G O w r s H _ hK hT R (hs.mono fun d w1 q v H1 R1 t1 p1 => ?_)
  rw [Out.sat_bind] at q
  refine ho G O w1 r s H1 _ hK hT R1 (q.mono fun hd w2 q2 hv H2 R2 t2 p2 => ?_)
  rw [Out.sat_bind] at q2
  refine hi G O w2 r s H2 _ hK hT R2 (q2.mono fun k w3 q3 kv H3 R3 t3 p3 => ?_)
  split at q3
  · rename_i a l k2 el
    split at q3
    · rename_i j hj
      obtain ⟨rfl, ew, xs, hx, hl⟩ := R3.wl el (Rep.tr t3.tr _ _ p2)
      obtain ⟨R4, t4⟩ := R3.setL ew (hl.set j (Rep.tr (t2.trans t3).tr _ _ p1))
      exact ⟨a, xs, k2, j, rfl, p3.int', hx, by rw [hl.length]; exact hj, q3 O s _ R4 (((t1.trans t2).trans t3).trans t4).tr⟩
    · exact q3.elim
  · exact q3.elim
/-- o[i], o a handle: read -/
def eIxW (fo fi : Sl → Om → Out D) : Sl → Om → Out D := fun r w => (fo r w).bind fun h w => (fi r w).bind fun k w => match wLst w h, k with
  | some (a, l), .int k => (match (ixN l.length k).bind fun j => l[j]? with
      | some d => .ok d w
      | none => .stuck)
  | _, _ => .stuck
theorem getR {K : PySem.W.Frag} {F : Addr → Prop} {H : Hp} {xs : List V} {l : List D} {k : Int} {d : D} (h : Reps K F H xs l) (e : ((ixN l.length k).bind fun j => l[j]?) = some d) : ∃ v, atI xs k = some v ∧ Rep K F H v d := by
  obtain ⟨j, h1, h2⟩ := Option.bind_eq_some_iff.mp e
  obtain ⟨v, h3, h4⟩ := h.get h2
  refine ⟨v, ?_, h4⟩
  unfold atI
  rw [h.length, h1]
  exact h3
theorem dx_ixW (ho : DE X T W o fo) (hi : DE X T W i fi) (hp : PlainIx i := by exact fun _ _ => rfl) : DE X T W (.Subscript o i pos) (eIxW fo fi) := by
  obtain ⟨to, po, ho⟩ := ho.run
  obtain ⟨ti, pi, hi⟩ := hi.run
  refine ⟨_, pe_ix ix_seq po pi hp, fun G O w r s H Q hK hT R hs => ?_⟩
  unfold eIxW at hs
  rw [Out.sat_bind] at hs
  refine ho G O w r s H _ hK hT R (hs.mono fun hd w1 q hv H1 R1 t1 p1 => ?_)
  rw [Out.sat_bind] at q
  refine hi G O w1 r s H1 _ hK hT R1 (q.mono fun k w2 q2 kv H2 R2 t2 p2 => ?_)
  split at q2
  · rename_i a l k2 el
    split at q2
    · rename_i d hd
      obtain ⟨rfl, ew, xs, hx, hl⟩ := R2.wl el (Rep.tr t2.tr _ _ p1)
      obtain ⟨v, hv, hr⟩ := getR hl hd
      refine .inl ⟨a, xs, k2, v, rfl, p2.int', SqL.of hx, hv, q2 v H2 R2 (t1.trans t2) hr⟩
    · exact q2.elim
  · exact q2.elim
end
end DL

set_option Elab.async false
set_option linter.all false
set_option maxRecDepth 100000
set_option maxHeartbeats 2000000
/-! DL13: defs, their promises, calls. -/
namespace DL
open PySem PySem.Spec L2
open PyProof.Rows hiding St

/-! ### the promise of a def that computes m -/
def Gin (K : PySem.W.Frag) (T : Tbl) (H : Hp) (w : Om) (Xs : Addr → Prop) : Gc := ⟨K, T, H, w, Xs⟩
def spW (K : PySem.W.Frag) (mg : Str → Option Value) (T : Tbl) (n : Nat) (m : List D → Om → Out D) : Sp := fun vs H Q E => vs.length = n ∧ ∃ (Xs : Addr → Prop) (w : Om) (ds : List D), Wor (Gin K T H w Xs) [] w H ∧ Reps K (Fx (Gin K T H w Xs) [] w) H vs ds ∧
  (m ds w).Sat (fun d w' => ∀ v H', Wor (Gin K T H w Xs) [] w' H' → Rep K (Fx (Gin K T H w Xs) [] w') H' v d → Q v H')
    (fun x _ w' => ∀ cls od H', Wor (Gin K T H w Xs) [] w' H' → XRep K mg (Fx (Gin K T H w Xs) [] w') H' x cls od → E cls od H')
section
variable {G : Gc} {O : List Addr} {w w' : Om} {H H' : Hp} {r : Sl} {s : L2.St}
/-- the callee keeps for the caller what is the caller's own -/
def Xs' (G : Gc) (O : List Addr) : Addr → Prop := fun a => a ∈ O ∨ G.Xs a
theorem fx_in (a : Addr) : Fx (Gin G.K G.T H w (Xs' G O)) [] w' a ↔ Fx G O w' a := by
  constructor
  · rintro (z | z | (z | z) | z)
    · exact nomatch z
    · exact .inr (.inl z)
    · exact .inl z
    · exact .inr (.inr (.inl z))
    · exact .inr (.inr (.inr z))
  · rintro (z | z | z | z)
    · exact .inr (.inr (.inl (.inl z)))
    · exact .inr (.inl z)
    · exact .inr (.inr (.inl (.inr z)))
    · exact .inr (.inr (.inr z))
theorem fx_in_eq : Fx (Gin G.K G.T H w (Xs' G O)) [] w' = Fx G O w' := funext fun a => propext (fx_in a)
theorem Wor.enter (W : Wor G O w H) : Wor (Gin G.K G.T H w (Xs' G O)) [] w H where
  keep := fun a o e n t => ⟨e, n, fun z => nomatch z⟩
  tabs := W.tabs
  wok := fun a m e => by rw [fx_in_eq]; exact W.wok a m e
  odis := ⟨List.nodup_nil, fun _ z => nomatch z⟩
  wdis := fun a n => ⟨(W.wdis a n).1, fun z => by
    rcases z with z | z
    · exact n (W.odis.2 a z).1
    · exact (W.wdis a n).2 z⟩
  xsome := fun a z => by
    rcases z with z | z
    · exact W.osome a z
    · exact W.xsome a z
  osome := fun _ z => nomatch z
  ltabs := fun p hp => ⟨(W.ltabs p hp).1, by rw [fx_in_eq]; exact (W.ltabs p hp).2⟩
theorem Wor.leave (W : Wor G O w H) (W' : Wor (Gin G.K G.T H w (Xs' G O)) [] w' H') : Wor G O w' H' ∧ TrE G w H w' H' := by
  have tre : TrE G w H w' H' := fun a o e n t => let ⟨h1, h2, _⟩ := W'.keep a o e n t; ⟨h1, h2⟩
  refine ⟨⟨fun a o e n t => ?_, W'.tabs, fun a m e => ?_, ⟨W.odis.1, fun a m => ?_⟩, fun a n => ⟨(W'.wdis a n).1, fun z => (W'.wdis a n).2 (.inr z)⟩, fun a z => W'.xsome a (.inr z), fun a z => W'.xsome a (.inl z), fun p hp => ⟨(W'.ltabs p hp).1, by
    have := (W'.ltabs p hp).2
    rw [fx_in_eq] at this
    exact this⟩⟩, tre⟩
  · obtain ⟨h1, h2, h3⟩ := W.keep a o e n t
    obtain ⟨h4, h5⟩ := tre a o h1 h2 t
    exact ⟨h4, h5, h3⟩
  · have := W'.wok a m e
    rw [fx_in_eq] at this
    exact this
  · refine ⟨?_, (W.odis.2 a m).2.1, (W.odis.2 a m).2.2⟩
    cases q : w' a with
    | none => rfl
    | some mo => exact absurd (.inl m) (W'.wdis a (by rw [q]; simp)).2
end

/-! ### calls -/
section
variable {X : Cx} {T : Tbl} {W : WX} {k : Nat} {f C : Addr} {fd : FuncData} {ps : List Str} {sp : Sp} {dvs : List V} {dus : List Value} {x nm : Str} {p pos apos : Pos} {e o : Expr} {es : List Expr} {ta : TE} {t : TA} {dd : List D} {m : List D → Om → Out D} {fs : Sl → Om → Out (List D)} {fo : Sl → Om → Out D}
theorem run_D {E : XK} {pins : List (Addr × Obj)} {σ : L2.St} {H : Hp} {sh : Shared} {Q : VK} {us : List Value} {vs : List V} (F : FnOk X.prog X.w X.K X.mg X.base (L2.CX X.prog X.w) k f fd ps sp) (room : Room k X.A) (bnd : Binds X.K fd ps dus) (dfl : Vals dvs dus)
    (ps' : PassesAt (L2.CX X.prog X.w) X σ E) (inv : Inv X pins σ H sh) (rel : Vals vs us) (want : sp (vs ++ dvs) H Q E) : wpAny (model X.prog X.w) X.A (call (.ref f) us) (EP X pins σ Q) X.xe sh := by
  have all : Vals (vs ++ dvs) (us ++ dus) := rel.append dfl
  have len : (us ++ dus).length = ps.length := all.length.symm.trans (F.len _ _ _ _ want)
  apply wpAny_call
  refine codeAny_mono (F.run X.A X.stack sh H ⟨us, []⟩ (us ++ dus) (vs ++ dvs) Q E room inv.env0 (bnd sh us inv.kIn len) all want) ?_
  intro res sh' got
  match res, got with
  | .error ex, got => exact ps' pins H sh ex sh' inv got
  | .ok (.ret u), got => exact inv.after got
  | .ok .next, got => exact got.elim
  | .ok .brk, got => exact got.elim
  | .ok .cont, got => exact got.elim
def tCallD (sp : Sp) (dvs : List V) (W : WX) (t : TA) : TE := fun σ H Q => t σ H fun vs H1 => sp (vs ++ dvs) H1 Q (WE W σ)
theorem pe_callD (F : FnOk X.prog X.w X.K X.mg X.base (L2.CX X.prog X.w) k f fd ps sp) (room : Room k X.A) (hg : Gl X x) (hm : X.mg x = some (.ref f)) (hk : PySem.W.keepIn X.K (.ref f) = true) (bnd : Binds X.K fd ps dus) (dfl : Vals dvs dus) (tk : Takes X W) (args : PA X (e :: es) t)
    (hdb : (x == ("__debug__" : Str)) = false) (h1 : starEach (e :: es) X.env = (false, eval e X.env) :: starEach es X.env) (h2 : (backTo pos (starEach es X.env)).any (·.1) = false) : PE X (.Call (.Name x p) (e :: es) [] pos) (tCallD sp dvs W t) := by
  constructor
  intro pins sh σ H Q inv run
  apply wpAny_Call_Name_kw
  refine ld_glob inv hg hm ?_ hdb
  refine PySem.W.callWith_K (h₀ := X.base) inv.ok.mod.kin hk (thn (args.run pos pins sh σ H _ inv run) ?_) h1 h2
  rintro us sh1 ⟨vs, H1, inv1, rel, want⟩
  exact ⟨inv1.kIn, run_D F room bnd dfl (passAt tk σ) inv1 rel want⟩
theorem pe_callD0 (F : FnOk X.prog X.w X.K X.mg X.base (L2.CX X.prog X.w) k f fd ps sp) (room : Room k X.A) (hg : Gl X x) (hm : X.mg x = some (.ref f)) (hk : PySem.W.keepIn X.K (.ref f) = true) (bnd : Binds X.K fd ps dus) (dfl : Vals dvs dus) (tk : Takes X W)
    (hdb : (x == ("__debug__" : Str)) = false) : PE X (.Call (.Name x p) [] [] pos) (tCallD sp dvs W tNil) := by
  constructor
  intro pins sh σ H Q inv run
  apply wpAny_Call_Name_kw
  refine ld_glob inv hg hm ?_ hdb
  exact PySem.W.callWith_K0 inv.kIn hk (run_D (us := []) F room bnd dfl (passAt tk σ) inv .nil run)
def tMethD (C : Addr) (nm : Str) (sp : Sp) (dvs : List V) (W : WX) (ta : TE) (t : TA) : TE := fun σ H Q => ta σ H fun x H1 => ∃ a dx fs, x = .ref a ∧ H1 a = some (.ins C dx fs) ∧ fs.lookup nm = none ∧ t σ H1 fun vs H2 => sp (x :: (vs ++ dvs)) H2 Q (WE W σ)
theorem pe_methD {pl : Sem Bool} (ho : PE X o ta) (c : Cls X.K C) (hm : Meth X.K C nm f) (F : FnOk X.prog X.w X.K X.mg X.base (L2.CX X.prog X.w) k f fd ps sp) (room : Room k X.A) (bnd : Binds X.K fd ps dus) (dfl : Vals dvs dus) (tk : Takes X W) (args : PA X (e :: es) t)
    (h1 : starEach (e :: es) X.env = (false, eval e X.env) :: starEach es X.env) (h2 : (backTo pos (starEach es X.env)).any (·.1) = false)
    (shape : eval (.Call (.Attribute o nm apos) (e :: es) [] pos) X.env = (do
      let ov ← eval o X.env
      standAt apos.atName
      let (g, first) ← holding [ov] (getMethod ov nm pl)
      callWith pos g first (backTo pos (starEach (e :: es) X.env)) (backToKw pos (keywordEach [] X.env)))) : PE X (.Call (.Attribute o nm apos) (e :: es) [] pos) (tMethD C nm sp dvs W ta t) := by
  constructor
  intro pins sh σ H Q inv run
  refine PySem.W.methodCall_KW (pl := pl) (thn (ho.run pins sh σ H _ inv run) ?_) shape
  rintro ov sh1 ⟨v, H1, inv1, rel, a, dx, fs, rfl, at_, no, want⟩
  cases rel
  refine getmeth_ok inv1 at_ c hm no (PySem.W.callWith_K (first := [.ref a]) (h₀ := X.base) inv.ok.mod.kin hm.kp (thn (args.run pos pins sh1 σ H1 _ inv1 want) ?_) h1 h2)
  rintro us sh2 ⟨vs, H2, inv2, rel2, want2⟩
  exact ⟨inv2.kIn, run_D (us := .ref a :: us) (vs := .ref a :: vs) F room bnd dfl (passAt tk σ) inv2 (.cons rfl rel2) want2⟩
theorem pe_methD0 {pl : Sem Bool} (ho : PE X o ta) (c : Cls X.K C) (hm : Meth X.K C nm f) (F : FnOk X.prog X.w X.K X.mg X.base (L2.CX X.prog X.w) k f fd ps sp) (room : Room k X.A) (bnd : Binds X.K fd ps dus) (dfl : Vals dvs dus) (tk : Takes X W)
    (shape : eval (.Call (.Attribute o nm apos) [] [] pos) X.env = (do
      let ov ← eval o X.env
      standAt apos.atName
      let (g, first) ← holding [ov] (getMethod ov nm pl)
      callWith pos g first (backTo pos (starEach [] X.env)) (backToKw pos (keywordEach [] X.env)))) : PE X (.Call (.Attribute o nm apos) [] [] pos) (tMethD C nm sp dvs W ta tNil) := by
  constructor
  intro pins sh σ H Q inv run
  refine PySem.W.methodCall_KW (pl := pl) (thn (ho.run pins sh σ H _ inv run) ?_) shape
  rintro ov sh1 ⟨v, H1, inv1, rel, a, dx, fs, rfl, at_, no, want⟩
  cases rel
  exact getmeth_ok inv1 at_ c hm no (PySem.W.callWith_K0 (first := [.ref a]) inv1.kIn hm.kp (run_D (us := [.ref a]) (vs := [.ref a]) F room bnd dfl (passAt tk σ) inv1 (.cons rfl .nil) want))
def tMakeD (C : Addr) (sp : Sp) (dvs : List V) (W : WX) (t : TA) : TE := fun σ H Q => t σ H fun vs H1 => ∀ x dx, H1 x = none → H1 dx = none → dx ≠ x →
  sp (.ref x :: (vs ++ dvs)) (upd (upd H1 dx (.own x)) x (.ins C dx [])) (fun v H2 => v = .non ∧ Q (.ref x) H2) (WE W σ)
theorem make_D {E : XK} {pins : List (Addr × Obj)} {σ : L2.St} {H : Hp} {sh : Shared} {Q : VK} {us : List Value} {vs : List V} (M : Mk X.K C f) (F : FnOk X.prog X.w X.K X.mg X.base (L2.CX X.prog X.w) k f fd ps sp) (room : Room (k + 1) X.A) (bnd : Binds X.K fd ps dus) (dfl : Vals dvs dus)
    (ps' : PassesAt (L2.CX X.prog X.w) X σ E) (inv : Inv X pins σ H sh) (rel : Vals vs us)
    (want : ∀ x dx, H x = none → H dx = none → dx ≠ x → sp (.ref x :: (vs ++ dvs)) (upd (upd H dx (.own x)) x (.ins C dx [])) (fun v H2 => v = .non ∧ Q (.ref x) H2) E) :
    wpAny (model X.prog X.w) X.A (call (.ref C) us) (EP X pins σ Q) X.xe sh := by
  have inv2 := Inv.made (C := C) inv
  have want2 := want (sh.heap.objs.size + 1) sh.heap.objs.size (inv.hok.fresh (Nat.le_succ _)) (inv.hok.fresh (Nat.le_refl _)) (Nat.ne_of_lt (Nat.lt_succ_self _))
  have all : Vals (V.ref (sh.heap.objs.size + 1) :: (vs ++ dvs)) (Value.ref (sh.heap.objs.size + 1) :: (us ++ dus)) := .cons rfl (rel.append dfl)
  have len : (Value.ref (sh.heap.objs.size + 1) :: us ++ dus).length = ps.length := all.length.symm.trans (F.len _ _ _ _ want2)
  apply wpAny_call
  refine make_map (f := f) inv.kIn M.makes M.init (beq_iff_eq.mp M.fn) ?_
  refine codeAny_mono (F.run _ X.stack _ _ ⟨Value.ref (sh.heap.objs.size + 1) :: us, []⟩ (Value.ref (sh.heap.objs.size + 1) :: (us ++ dus)) _ _ E (room.make C us []) (inv2.env0.make C us []) (bnd _ (Value.ref (sh.heap.objs.size + 1) :: us) inv2.kIn len) all want2) ?_
  intro res sh' got
  match res, got with
  | .error ex, got => exact ps' pins _ _ ex sh' inv2 got
  | .ok (.ret u), got =>
    obtain ⟨v, H3, inv3, rv, ev, fin⟩ := inv2.after got
    subst ev
    exact ⟨rv, V.ref (sh.heap.objs.size + 1), H3, inv3, rfl, fin⟩
  | .ok .next, got => exact got.elim
  | .ok .brk, got => exact got.elim
  | .ok .cont, got => exact got.elim
theorem pe_makeD' (M : Mk X.K C f) (F : FnOk X.prog X.w X.K X.mg X.base (L2.CX X.prog X.w) k f fd ps sp) (room : Room (k + 1) X.A) (hg : Gl X x) (hm : X.mg x = some (.ref C)) (bnd : Binds X.K fd ps dus) (dfl : Vals dvs dus) (tk : Takes X W) (args : PA X (e :: es) t)
    (hdb : (x == ("__debug__" : Str)) = false) (h1 : starEach (e :: es) X.env = (false, eval e X.env) :: starEach es X.env) (h2 : (backTo pos (starEach es X.env)).any (·.1) = false) : PE X (.Call (.Name x p) (e :: es) [] pos) (tMakeD C sp dvs W t) := by
  constructor
  intro pins sh σ H Q inv run
  apply wpAny_Call_Name_kw
  refine ld_glob inv hg hm ?_ hdb
  refine PySem.W.callWith_K (h₀ := X.base) inv.ok.mod.kin M.kp (thn (args.run pos pins sh σ H _ inv run) ?_) h1 h2
  rintro us sh1 ⟨vs, H1, inv1, rel, want⟩
  exact ⟨inv1.kIn, make_D M F room bnd dfl (passAt tk σ) inv1 rel want⟩
theorem pe_makeD0 (M : Mk X.K C f) (F : FnOk X.prog X.w X.K X.mg X.base (L2.CX X.prog X.w) k f fd ps sp) (room : Room (k + 1) X.A) (hg : Gl X x) (hm : X.mg x = some (.ref C)) (bnd : Binds X.K fd ps dus) (dfl : Vals dvs dus) (tk : Takes X W)
    (hdb : (x == ("__debug__" : Str)) = false) : PE X (.Call (.Name x p) [] [] pos) (tMakeD C sp dvs W tNil) := by
  constructor
  intro pins sh σ H Q inv run
  apply wpAny_Call_Name_kw
  refine ld_glob inv hg hm ?_ hdb
  exact PySem.W.callWith_K0 inv.kIn M.kp (make_D (us := []) M F room bnd dfl (passAt tk σ) inv .nil run)

/-! D's side -/
theorem sp_run {G : Gc} {O : List Addr} {w : Om} {r : Sl} {s : L2.St} {H : Hp} {n : Nat} {vs : List V} {ds : List D} {Q : VK} (hK : G.K = X.K) (hT : G.T = T) (R : Rel G O w r s H) (hl : vs.length = n) (hv : Reps G.K (Fx G O w) H vs ds)
    (h : ((m ds w).at r).Sat (fun d w' => ∀ v H', Rel G O w' r s H' → TrE G w H w' H' → Rep G.K (Fx G O w') H' v d → Q v H') (OkX X G W)) : spW X.K X.mg T n m vs H Q (WE W s) := by
  rw [Out.sat_at] at h
  refine ⟨hl, Xs' G O, w, ds, ?_, ?_, ?_⟩
  · rw [← hK, ← hT]; exact R.toWor.enter
  · rw [← hK, ← hT, fx_in_eq]; exact hv
  · refine h.imp (fun d w' q v H' W' p => ?_) (fun e r' w' q cls od H' W' p => ?_)
    · rw [← hK, ← hT] at W' p
      obtain ⟨W2, t2⟩ := R.toWor.leave W'
      rw [fx_in_eq] at p
      exact q v H' (R.of_wor W2 t2) t2 p
    · rw [← hK, ← hT] at W' p
      obtain ⟨W2, t2⟩ := R.toWor.leave W'
      rw [fx_in_eq, hK] at p
      exact q cls od O s H' (R.of_wor W2 t2) p
/-- the number of parameters -/
structure FnN (P : Program) (wd : World) (K : PySem.W.Frag) (mg : Str → Option Value) (base : Heap) (T : Tbl) (k : Nat) (f : Addr) (n : Nat) (dd : List D) (m : List D → Om → Out D) : Prop where
  ex : ∃ (fd : FuncData) (ps : List Str) (dus : List Value) (dvs : List V), ps.length = n ∧ FnOk P wd K mg base (L2.CX P wd) k f fd ps (spW K mg T n m) ∧ Binds K fd ps dus ∧ Vals dvs dus ∧ ∀ F H, Reps K F H dvs dd
theorem FnN.mono {P : Program} {wd : World} {K : PySem.W.Frag} {mg : Str → Option Value} {base : Heap} {j k n : Nat} {dd : List D} {m : List D → Om → Out D} (F : FnN P wd K mg base T j f n dd m) (h : j ≤ k) : FnN P wd K mg base T k f n dd m := by
  obtain ⟨fd, ps, dus, dvs, h0, h1, h2⟩ := F.ex
  exact ⟨fd, ps, dus, dvs, h0, h1.mono h, h2⟩
def eCallN (n : Nat) (m : List D → Om → Out D) (dd : List D) (fs : Sl → Om → Out (List D)) : Sl → Om → Out D := fun r w => (fs r w).bind fun ds w => if ds.length + dd.length = n then (m (ds ++ dd) w).at r else .stuck
theorem dx_call {n : Nat} (F : FnN X.prog X.w X.K X.mg X.base T k f n dd m) (room : Room k X.A) (hg : Gl X x) (hm : X.mg x = some (.ref f)) (hk : PySem.W.keepIn X.K (.ref f) = true) (tk : Takes X W) (ha : DA X T W (e :: es) fs)
    (hdb : (x == ("__debug__" : Str)) = false := by decide) (h1 : starEach (e :: es) X.env = (false, eval e X.env) :: starEach es X.env := by rfl) (h2 : (backTo pos (starEach es X.env)).any (·.1) = false := by rfl) : DE X T W (.Call (.Name x p) (e :: es) [] pos) (eCallN n m dd fs) := by
  obtain ⟨fd, ps, dus, dvs, g0, g1, g2, g3, g4⟩ := F.ex
  obtain ⟨ta, pa, ha⟩ := ha.run
  refine ⟨_, pe_callD g1 room hg hm hk g2 g3 tk pa hdb h1 h2, fun G O w r s H Q hK hT R hs => ?_⟩
  unfold eCallN at hs
  rw [Out.sat_bind] at hs
  refine ha G O w r s H _ hK hT R (hs.mono fun ds w1 q vs H1 R1 t1 p1 => ?_)
  split at q
  · rename_i hl
    refine sp_run hK hT R1 ?_ (p1.append (by rw [hK]; exact g4 _ _)) (q.mono fun d w2 q v H2 R2 t2 p2 => q v H2 R2 (t1.trans t2) p2)
    rw [List.length_append, p1.length, (g4 (fun _ => False) H1).length]
    exact hl
  · exact q.elim
theorem dx_call0 {n : Nat} (F : FnN X.prog X.w X.K X.mg X.base T k f n dd m) (room : Room k X.A) (hg : Gl X x) (hm : X.mg x = some (.ref f)) (hk : PySem.W.keepIn X.K (.ref f) = true) (tk : Takes X W)
    (hdb : (x == ("__debug__" : Str)) = false := by decide) : DE X T W (.Call (.Name x p) [] [] pos) (eCallN n m dd aNil) := by
  obtain ⟨fd, ps, dus, dvs, g0, g1, g2, g3, g4⟩ := F.ex
  refine ⟨_, pe_callD0 g1 room hg hm hk g2 g3 tk hdb, fun G O w r s H Q hK hT R hs => ?_⟩
  unfold eCallN aNil at hs
  rw [Out.bind_ok] at hs
  split at hs
  · rename_i hl
    refine sp_run hK hT R ?_ (by rw [hK]; exact g4 _ _) hs
    rw [List.nil_append, (g4 (fun _ => False) H).length]
    simpa using hl
  · exact hs.elim
/-- o.m(..) -/
def wIns (w : Om) (d : D) : Option (Addr × Addr × Addr × List (Str × D)) := match d with
  | .ref a => (match w a with
    | some (.ins C dx fs) => some (a, C, dx, fs)
    | _ => none)
  | _ => none
theorem wIns_eq {w : Om} {d : D} {a C dx : Addr} {fs : List (Str × D)} (h : wIns w d = some (a, C, dx, fs)) : d = .ref a ∧ w a = some (.ins C dx fs) := by
  unfold wIns at h
  split at h
  · split at h
    · rename_i e
      cases h
      exact ⟨rfl, e⟩
    · cases h
  · cases h
theorem FReps.look {K : PySem.W.Frag} {F : Addr → Prop} {H : Hp} {f : Str} : ∀ {vs : List (Str × V)} {ds : List (Str × D)}, FReps K F H vs ds → (ds.lookup f = none → vs.lookup f = none) ∧ ∀ d, ds.lookup f = some d → ∃ v, vs.lookup f = some v ∧ Rep K F H v d
  | _, _, .nil => ⟨fun _ => rfl, fun d h => by cases h⟩
  | _, _, .cons (n := n) (vs := vs) (ds := ds) h1 h2 => by
    obtain ⟨i1, i2⟩ := FReps.look (f := f) h2
    rw [List.lookup_cons, List.lookup_cons]
    cases e : f == n with
    | true =>
      refine ⟨fun h => (by cases h), fun d h => ?_⟩
      cases h
      exact ⟨_, rfl, h1⟩
    | false => exact ⟨i1, i2⟩
def eMeth (C : Addr) (nm : Str) (n : Nat) (m : List D → Om → Out D) (dd : List D) (fo : Sl → Om → Out D) (fs : Sl → Om → Out (List D)) : Sl → Om → Out D := fun r w => (fo r w).bind fun o w => match wIns w o with
  | some (a, C', dx, fl) => if C' = C ∧ fl.lookup nm = none then (fs r w).bind fun ds w => (if ds.length + 1 + dd.length = n then (m (o :: (ds ++ dd)) w).at r else .stuck) else .stuck
  | none => .stuck
theorem dx_meth {n : Nat} {pl : Sem Bool} (ho : DE X T W o fo) (c : Cls X.K C) (hm : Meth X.K C nm f) (F : FnN X.prog X.w X.K X.mg X.base T k f n dd m) (room : Room k X.A) (tk : Takes X W) (ha : DA X T W (e :: es) fs)
    (h1 : starEach (e :: es) X.env = (false, eval e X.env) :: starEach es X.env := by rfl) (h2 : (backTo pos (starEach es X.env)).any (·.1) = false := by rfl)
    (shape : eval (.Call (.Attribute o nm apos) (e :: es) [] pos) X.env = (do
      let ov ← eval o X.env
      standAt apos.atName
      let (g, first) ← holding [ov] (getMethod ov nm pl)
      callWith pos g first (backTo pos (starEach (e :: es) X.env)) (backToKw pos (keywordEach [] X.env))) := by rfl) : DE X T W (.Call (.Attribute o nm apos) (e :: es) [] pos) (eMeth C nm n m dd fo fs) := by
  obtain ⟨fd, ps, dus, dvs, g0, g1, g2, g3, g4⟩ := F.ex
  obtain ⟨to, po, ho⟩ := ho.run
  obtain ⟨ta, pa, ha⟩ := ha.run
  refine ⟨_, pe_methD po c hm g1 room g2 g3 tk pa h1 h2 shape, fun G O w r s H Q hK hT R hs => ?_⟩
  unfold eMeth at hs
  rw [Out.sat_bind] at hs
  refine ho G O w r s H _ hK hT R (hs.mono fun od w0 q v0 H0 R0 t0 p0 => ?_)
  split at q
  · rename_i a C' dx fl el
    obtain ⟨rfl, ew⟩ := wIns_eq el
    split at q
    · rename_i hc
      obtain ⟨rfl, hn⟩ := hc
      obtain ⟨vs0, hv0, hf0⟩ := R0.wok a _ ew
      cases p0
      refine ⟨a, dx, vs0, rfl, hv0, hf0.look.1 hn, ?_⟩
      rw [Out.sat_bind] at q
      refine ha G O w0 r s H0 _ hK hT R0 (q.mono fun ds w1 q vs H1 R1 t1 p1 => ?_)
      split at q
      · rename_i hl
        refine sp_run hK hT R1 ?_ (.cons (.ref a) (p1.append (by rw [hK]; exact g4 _ _))) (q.mono fun d w2 q v H2 R2 t2 p2 => q v H2 R2 ((t0.trans t1).trans t2) p2)
        rw [List.length_cons, List.length_append, p1.length, (g4 (fun _ => False) H1).length, ← hl]
        omega
      · exact q.elim
    · exact q.elim
  · exact q.elim
theorem dx_meth0 {n : Nat} {pl : Sem Bool} (ho : DE X T W o fo) (c : Cls X.K C) (hm : Meth X.K C nm f) (F : FnN X.prog X.w X.K X.mg X.base T k f n dd m) (room : Room k X.A) (tk : Takes X W)
    (shape : eval (.Call (.Attribute o nm apos) [] [] pos) X.env = (do
      let ov ← eval o X.env
      standAt apos.atName
      let (g, first) ← holding [ov] (getMethod ov nm pl)
      callWith pos g first (backTo pos (starEach [] X.env)) (backToKw pos (keywordEach [] X.env))) := by rfl) : DE X T W (.Call (.Attribute o nm apos) [] [] pos) (eMeth C nm n m dd fo aNil) := by
  obtain ⟨fd, ps, dus, dvs, g0, g1, g2, g3, g4⟩ := F.ex
  obtain ⟨to, po, ho⟩ := ho.run
  refine ⟨_, pe_methD0 po c hm g1 room g2 g3 tk shape, fun G O w r s H Q hK hT R hs => ?_⟩
  unfold eMeth at hs
  rw [Out.sat_bind] at hs
  refine ho G O w r s H _ hK hT R (hs.mono fun od w0 q v0 H0 R0 t0 p0 => ?_)
  split at q
  · rename_i a C' dx fl el
    obtain ⟨rfl, ew⟩ := wIns_eq el
    split at q
    · rename_i hc
      obtain ⟨rfl, hn⟩ := hc
      obtain ⟨vs0, hv0, hf0⟩ := R0.wok a _ ew
      cases p0
      refine ⟨a, dx, vs0, rfl, hv0, hf0.look.1 hn, ?_⟩
      unfold aNil at q
      rw [Out.bind_ok] at q
      split at q
      · rename_i hl
        refine sp_run hK hT R0 ?_ (.cons (.ref a) (by rw [hK]; exact g4 _ _)) (q.mono fun d w2 q v H2 R2 t2 p2 => q v H2 R2 (t0.trans t2) p2)
        rw [List.length_cons, List.nil_append, (g4 (fun _ => False) H0).length, ← hl, List.length_nil]
        omega
      · exact q.elim
    · exact q.elim
  · exact q.elim
/-- C(..) -/
def eMake (C : Addr) (n : Nat) (m : List D → Om → Out D) (dd : List D) (fs : Sl → Om → Out (List D)) : Sl → Om → Out D := fun r w => (fs r w).bind fun ds w => if ds.length + 1 + dd.length = n then .frs w fun x => .new fun dx => ((m (.ref x :: (ds ++ dd)) (w.set x (.ins C dx []))).at r).bind fun v w => match v with
  | .non => .ok (.ref x) w
  | _ => .stuck else .stuck
theorem make_run {G : Gc} {O : List Addr} {w : Om} {r : Sl} {s : L2.St} {H : Hp} {n : Nat} {vs : List V} {ds : List D} {Q : VK} (hK : G.K = X.K) (hT : G.T = T) (R : Rel G O w r s H) (hl : vs.length + 1 = n) (hv : Reps G.K (Fx G O w) H vs ds) 
    (h : (Out.frs w fun x => .new fun dx => ((m (.ref x :: ds) (w.set x (.ins C dx []))).at r).bind fun v w => match v with
      | .non => .ok (.ref x) w
      | _ => .stuck).Sat (fun d w' => ∀ v H', Rel G O w' r s H' → TrE G w H w' H' → Rep G.K (Fx G O w') H' v d → Q v H') (OkX X G W)) :
    ∀ x dx, H x = none → H dx = none → dx ≠ x → spW X.K X.mg T n m (.ref x :: vs) (upd (upd H dx (.own x)) x (.ins C dx [])) (fun v H2 => v = .non ∧ Q (.ref x) H2) (WE W s) := by
  intro x dx hx hdx ne
  have q := Out.sat_frs.mp h x (R.wnone hx) dx
  obtain ⟨R1, t1⟩ := R.new (o := .own x) hdx
  have hx1 : upd H dx (.own x) x = none := by rw [upd_ne (Ne.symm ne)]; exact hx
  obtain ⟨R2, t2⟩ := R1.neww (u := .ins C dx []) (mo := .ins C dx []) hx1 fun F' H' t e => ⟨[], e, .nil⟩
  rw [Out.sat_bind] at q
  refine sp_run hK hT R2 (by rw [List.length_cons]; exact hl) (.cons (.ref x) (Reps.tr (t1.trans t2).tr _ _ hv)) (q.mono fun d w3 q v H3 R3 t3 p3 => ?_)
  cases d <;> (try exact q.elim)
  cases p3
  have q2 : ∀ v H', Rel G O w3 r s H' → TrE G w H w3 H' → Rep G.K (Fx G O w3) H' v (.ref x) → Q v H' := q
  exact ⟨rfl, q2 _ H3 R3 ((t1.trans t2).trans t3) (.ref x)⟩
theorem dx_make {n : Nat} (M : Mk X.K C f) (F : FnN X.prog X.w X.K X.mg X.base T k f n dd m) (room : Room (k + 1) X.A) (hg : Gl X x) (hm : X.mg x = some (.ref C)) (tk : Takes X W) (ha : DA X T W (e :: es) fs)
    (hdb : (x == ("__debug__" : Str)) = false := by decide) (h1 : starEach (e :: es) X.env = (false, eval e X.env) :: starEach es X.env := by rfl) (h2 : (backTo pos (starEach es X.env)).any (·.1) = false := by rfl) : DE X T W (.Call (.Name x p) (e :: es) [] pos) (eMake C n m dd fs) := by
  obtain ⟨fd, ps, dus, dvs, g0, g1, g2, g3, g4⟩ := F.ex
  obtain ⟨ta, pa, ha⟩ := ha.run
  refine ⟨_, pe_makeD' M g1 room hg hm g2 g3 tk pa hdb h1 h2, fun G O w r s H Q hK hT R hs => ?_⟩
  unfold eMake at hs
  rw [Out.sat_bind] at hs
  refine ha G O w r s H _ hK hT R (hs.mono fun ds w1 q vs H1 R1 t1 p1 => ?_)
  split at q
  · rename_i hl
    refine make_run (Q := Q) hK hT R1 ?_ (p1.append (by rw [hK]; exact g4 _ _)) (q.mono fun d w2 q v H2 R2 t2 p2 => q v H2 R2 (t1.trans t2) p2)
    rw [List.length_append, p1.length, (g4 (fun _ => False) H1).length, ← hl]
    omega
  · exact q.elim
theorem dx_make0 {n : Nat} (M : Mk X.K C f) (F : FnN X.prog X.w X.K X.mg X.base T k f n dd m) (room : Room (k + 1) X.A) (hg : Gl X x) (hm : X.mg x = some (.ref C)) (tk : Takes X W)
    (hdb : (x == ("__debug__" : Str)) = false := by decide) : DE X T W (.Call (.Name x p) [] [] pos) (eMake C n m dd aNil) := by
  obtain ⟨fd, ps, dus, dvs, g0, g1, g2, g3, g4⟩ := F.ex
  refine ⟨_, pe_makeD0 M g1 room hg hm g2 g3 tk hdb, fun G O w r s H Q hK hT R hs => ?_⟩
  unfold eMake aNil at hs
  rw [Out.bind_ok] at hs
  split at hs
  · rename_i hl
    refine make_run (Q := Q) hK hT R ?_ (by rw [hK]; exact g4 _ _) hs
    rw [List.nil_append, (g4 (fun _ => False) H).length, ← hl, List.length_nil]
    omega
  · exact hs.elim
end
end DL

set_option Elab.async false
set_option linter.all false
set_option maxRecDepth 100000
set_option maxHeartbeats 2000000
/-! DL14: a def's body; attributes; augmented stores. -/
namespace DL
open PySem PySem.Spec L2
open PyProof.Rows hiding St

/-! ### a def's body -/
def slots0 (n : Nat) (ds : List D) : Sl := ds.map .p ++ List.replicate (n - ds.length) .no
def fnD (n : Nat) (g : Sl → Om → Out Res) : List D → Om → Out D := fun ds w => (g (slots0 n ds) w).bind fun res w => match res with
  | .rt d => .ok d w
  | .nx _ => .ok .non w
  | _ => .stuck
section
variable {P : Program} {wd : World} {K : PySem.W.Frag} {mg : Str → Option Value} {base : Heap} {T : Tbl} {x qual : Str} {params : Arguments} {body : List Stmt} {scope : Scope} {dvs : List V} {kws : List (Str × V)} {f : Addr} {fd : FuncData} {N ps : List Str} {k : Nat} {g : Sl → Om → Out Res}
theorem slots_no {K : PySem.W.Frag} {F : Addr → Prop} {H : Hp} : ∀ n : Nat, Slots K F H [] (List.replicate n none) (List.replicate n .no)
  | 0 => .nil
  | n + 1 => .no (slots_no n)
theorem slots_ps {K : PySem.W.Frag} {F : Addr → Prop} {H : Hp} {s : L2.St} {r : Sl} (h : Slots K F H [] s r) : ∀ {vs : List V} {ds : List D}, Reps K F H vs ds → Slots K F H [] (vs.map some ++ s) (ds.map .p ++ r)
  | _, _, .nil => h
  | _, _, .cons h1 h2 => .p h1 (slots_ps h h2)
theorem slots_start {K : PySem.W.Frag} {F : Addr → Prop} {H : Hp} {vs : List V} {ds : List D} (h : Reps K F H vs ds) : Slots K F H [] (L2.start N vs) (slots0 N.length ds) := by
  unfold L2.start slots0
  rw [h.length]
  exact slots_ps (slots_no _) h
theorem XRep.bare {G : Gc} {O : List Addr} {w : Om} {H : Hp} {mg : Str → Option Value} {e : Exn} {cls : Value} {od : Option Addr} (h : XRep G.K mg (Fx G O w) H e cls od) : XRep G.K mg (Fx G [] w) H e cls od := by
  obtain ⟨C, h1, h2, h3⟩ := h
  refine ⟨C, h1, h2, ?_⟩
  rcases h3 with h3 | ⟨d, vs, h4, h5, h6⟩
  · exact .inl h3
  · exact .inr ⟨d, vs, h4, h5, h6.tr (tr_sub fun a z => fx_bare z)⟩
/-- what a body may lean on -/
structure BodyOk (X : Cx) (K : PySem.W.Frag) (mg : Str → Option Value) (T : Tbl) (k : Nat) (W : WX) : Prop where
  room : Room k X.A
  tk : Takes X W
abbrev CxF (P : Program) (wd : World) (K : PySem.W.Frag) (mg : Str → Option Value) (base : Heap) (N : List Str) (qual : Str) (scope : Scope) (f : Addr) (cdv : Value) (A : Around) (outer : List Env) (s : Shared) (H : Hp) (E : XK) : Cx := cxOf (L2.CX P wd) P wd K mg base N qual scope f cdv A outer s H E
theorem dfn_ok (F : FunD K x qual params body scope dvs kws f fd) (S : FnScope N ps scope)
    (hbody : ∀ (cdv : Value) (A : Around) (outer : List Env) (s : Shared) (H : Hp) (E : XK), Room k (A.deeper (envOfC qual scope s.heap.objs.size f cdv)) → Takes (CxF P wd K mg base N qual scope f cdv A outer s H E) (fun cls d _ H => E cls d H) →
      DSs (CxF P wd K mg base N qual scope f cdv A outer s H E) T (fun cls d _ H => E cls d H) body g) : FnOk P wd K mg base (L2.CX P wd) (k + 1) f fd ps (spW K mg T ps.length (fnD N.length g)) := by
  refine F.ok S (fun vs H Q E h => h.1) (fun cdv A outer s H vs Q E hr h => ?_)
  obtain ⟨hl, Xs, w, ds, W, hv, h⟩ := h
  have tk : Takes (CxF P wd K mg base N qual scope f cdv A outer s H E) (fun cls d _ H => E cls d H) := L2.takes_of rfl rfl rfl rfl
  obtain ⟨ts, ps', run⟩ := (hbody cdv A outer s H E hr tk).run
  refine ⟨ts, ps', run (Gin K T H w Xs) [] w (slots0 N.length ds) _ H _ rfl rfl ⟨W, [], List.nodup_nil, fun _ z => z, slots_start hv⟩ ?_⟩
  unfold fnD at h
  rw [Out.sat_bind] at h
  refine h.imp (fun res w' q => ?_) (fun e r' w' q cls od O' s' H' R p => ?_)
  · cases res with
    | nx r' =>
      have q2 : ∀ v H', Wor (Gin K T H w Xs) [] w' H' → Rep K (Fx (Gin K T H w Xs) [] w') H' v .non → Q v H' := q
      exact fun O' s' H' R t => q2 .non H' R.toWor.bare .non
    | rt d =>
      have q2 : ∀ v H', Wor (Gin K T H w Xs) [] w' H' → Rep K (Fx (Gin K T H w Xs) [] w') H' v d → Q v H' := q
      exact fun v H' W' p => q2 v H' W' p
    | bk r' => exact q.elim
    | ct r' => exact q.elim
  · exact q cls od H' R.toWor.bare (XRep.bare (G := Gin K T H w Xs) p)
/-- no defaults -/
theorem fn_mk0 (F : FunD K x qual params body scope [] kws f fd) (S : FnScope N ps scope)
    (hb : ∀ (kV doc pm : Value) (an : Option Addr) (cdv ct : Value) (us : List Value), us.length = ps.length → bindArgs (PySem.W.fnOf x qual params body scope .none kV doc pm an cdv ct) ⟨us, []⟩ = pure (ps.zip us))
    (hbody : ∀ (cdv : Value) (A : Around) (outer : List Env) (s : Shared) (H : Hp) (E : XK), Room k (A.deeper (envOfC qual scope s.heap.objs.size f cdv)) → Takes (CxF P wd K mg base N qual scope f cdv A outer s H E) (fun cls d _ H => E cls d H) →
      DSs (CxF P wd K mg base N qual scope f cdv A outer s H E) T (fun cls d _ H => E cls d H) body g) : FnN P wd K mg base T (k + 1) f ps.length [] (fnD N.length g) :=
  ⟨fd, ps, [], [], rfl, dfn_ok F S hbody, F.bindsN hb, .nil, fun _ _ => .nil⟩
/-- defaults: n written, the others from the j-th default on -/
theorem fn_mk1 (F : FunD K x qual params body scope dvs kws f fd) (S : FnScope N ps scope) (n j : Nat) (dd : List D) (hd : dvs ≠ []) (hn : n + (dvs.length - j) = ps.length) (hdd : ∀ F H, Reps K F H (dvs.drop j) dd)
    (hb : ∀ (T : Addr) (kV doc pm : Value) (an : Option Addr) (cdv ct : Value) (us its : List Value), us.length = n → its.length = dvs.length →
      ∃ k, bindArgs (PySem.W.fnOf x qual params body scope (.ref T) kV doc pm an cdv ct) ⟨us, []⟩ = seqItems? (.ref T) >>= k ∧ k (some its.toArray) = pure (ps.zip (us ++ its.drop j)))
    (hbody : ∀ (cdv : Value) (A : Around) (outer : List Env) (s : Shared) (H : Hp) (E : XK), Room k (A.deeper (envOfC qual scope s.heap.objs.size f cdv)) → Takes (CxF P wd K mg base N qual scope f cdv A outer s H E) (fun cls d _ H => E cls d H) →
      DSs (CxF P wd K mg base N qual scope f cdv A outer s H E) T (fun cls d _ H => E cls d H) body g) : FnN P wd K mg base T (k + 1) f ps.length dd (fnD N.length g) := by
  obtain ⟨dus, h1, h2⟩ := F.binds1 n j hd hn hb
  exact ⟨fd, ps, dus, _, rfl, dfn_ok F S hbody, h2, h1, hdd⟩
end

/-! ### attributes -/
section
variable {X : Cx} {T : Tbl} {W : WX} {k : Nat} {f C p : Addr} {x nm : Str} {pos pos' apos : Pos} {e o : Expr} {es : List Expr} {dd : List D} {m : List D → Om → Out D} {fs : Sl → Om → Out (List D)} {fo fe : Sl → Om → Out D}
/-- o.nm: an attribute of the instance -/
def eAtt (C : Addr) (nm : Str) (fo : Sl → Om → Out D) : Sl → Om → Out D := fun r w => (fo r w).bind fun o w => match wIns w o with
  | some (a, C', dx, fl) => if C' = C then (match fl.lookup nm with
    | some d => .ok d w
    | none => .stuck) else .stuck
  | none => .stuck
theorem dx_att (ho : DE X T W o fo) (c : Cls X.K C) (n : NoAttr X.K C nm) (hb : attributeBase o nm X.env (eval o X.env) = eval o X.env := by rfl) : DE X T W (.Attribute o nm pos) (eAtt C nm fo) := by
  obtain ⟨to, po, ho⟩ := ho.run
  refine ⟨_, pe_fld po hb, fun G O w r s H Q hK hT R hs => ?_⟩
  unfold eAtt at hs
  rw [Out.sat_bind] at hs
  refine ho G O w r s H _ hK hT R (hs.mono fun od w0 q v0 H0 R0 t0 p0 => ?_)
  split at q
  · rename_i a C' dx fl el
    obtain ⟨rfl, ew⟩ := wIns_eq el
    split at q
    · rename_i hc
      subst hc
      split at q
      · rename_i d hd
        obtain ⟨vs0, hv0, hf0⟩ := R0.wok a _ ew
        cases p0
        obtain ⟨v, h1, h2⟩ := hf0.look.2 d hd
        exact ⟨a, C', dx, vs0, v, rfl, hv0, c, n, h1, q v H0 R0 t0 h2⟩
      · exact q.elim
    · exact q.elim
  · exact q.elim
def putD (nm : Str) (d : D) : List (Str × D) → List (Str × D)
  | [] => [(nm, d)]
  | (n, v) :: r => if n = nm then (n, d) :: r else (n, v) :: putD nm d r
theorem FReps.put {K : PySem.W.Frag} {F : Addr → Prop} {H : Hp} {v : V} {d : D} (h : Rep K F H v d) : ∀ {vs : List (Str × V)} {ds : List (Str × D)}, FReps K F H vs ds → FReps K F H (putF nm v vs) (putD nm d ds)
  | _, _, .nil => .cons h .nil
  | _, _, .cons (n := n) h1 h2 => by
    unfold putF putD
    split
    · exact .cons h h2
    · exact .cons h1 (FReps.put h h2)
theorem FReps.len {K : PySem.W.Frag} {F : Addr → Prop} {H : Hp} : ∀ {vs : List (Str × V)} {ds : List (Str × D)}, FReps K F H vs ds → vs.length = ds.length
  | _, _, .nil => rfl
  | _, _, .cons h1 h2 => by rw [List.length_cons, List.length_cons, FReps.len h2]
theorem Rel.setF {G : Gc} {O : List Addr} {w : Om} {H : Hp} {r : Sl} {s : L2.St} {a C dx : Addr} {fl : List (Str × D)} {vs : List (Str × V)} {fl' : List (Str × D)} (R : Rel G O w r s H) (e : w a = some (.ins C dx fl)) (h : FReps G.K (Fx G O w) H vs fl') : Rel G O (w.set a (.ins C dx fl')) r s (upd H a (.ins C dx vs)) ∧ TrE G w H (w.set a (.ins C dx fl')) (upd H a (.ins C dx vs)) :=
  R.mutW e fun H' st e' => ⟨vs, e', h.tr fun b o q n => ⟨st b o q n, n⟩⟩
/-- o.nm = e -/
def sAtt (C : Addr) (nm : Str) (fe fo : Sl → Om → Out D) : Sl → Om → Out Res := fun r w => (fe r w).bind fun d w => (fo r w).bind fun o w => match wIns w o with
  | some (a, C', dx, fl) => if C' = C ∧ fl.length < 1000 then .ok (.nx r) (w.set a (.ins C dx (putD nm d fl))) else .stuck
  | none => .stuck
theorem ds_att (he : DE X T W e fe) (ho : DE X T W o fo) (c : Cls X.K C) (n : NoAttr X.K C nm) (hs : swapsWith e (some (.Attribute o nm pos')) pos.line X.env = pure false := by rfl) : DS X T W (.Assign [.Attribute o nm pos'] e pos) (sAtt C nm fe fo) := by
  obtain ⟨te, pe, he⟩ := he.run
  obtain ⟨to, po, ho⟩ := ho.run
  refine ⟨_, ps_fld po pe hs, fun G O w r s H D hK hT R hs => ?_⟩
  unfold sAtt at hs
  rw [Out.sat_bind] at hs
  refine he G O w r s H _ hK hT R (hs.mono fun d w1 q v H1 R1 t1 p1 => ?_)
  rw [Out.sat_bind] at q
  refine ho G O w1 r s H1 _ hK hT R1 (q.mono fun od w0 q v0 H0 R0 t0 p0 => ?_)
  split at q
  · rename_i a C' dx fl el
    obtain ⟨rfl, ew⟩ := wIns_eq el
    split at q
    · rename_i hc
      obtain ⟨rfl, hl⟩ := hc
      obtain ⟨vs0, hv0, hf0⟩ := R0.wok a _ ew
      cases p0
      obtain ⟨R2, t2⟩ := R0.setF (fl' := putD nm d fl) ew (hf0.put (nm := nm) (Rep.tr t0.tr _ _ p1))
      exact ⟨a, C', dx, vs0, rfl, hv0, c, n, by rw [hf0.len]; exact hl, q O s _ R2 ((t1.trans t0).trans t2).tr⟩
    · exact q.elim
  · exact q.elim
/-- o.nm += e, ints -/
def sAttAug (C : Addr) (nm : Str) (fo fe : Sl → Om → Out D) : Sl → Om → Out Res := fun r w => (fo r w).bind fun o w => match wIns w o with
  | some (a, C', dx, fl) => if C' = C then (match fl.lookup nm with
    | some (.int i) => (fe r w).bind fun d w => (match d, w a with
      | .int j, some (.ins C' dx fl) => if C' = C ∧ fl.length < 1000 then .ok (.nx r) (w.set a (.ins C dx (putD nm (.int (i + j)) fl))) else .stuck
      | _, _ => .stuck)
    | _ => .stuck) else .stuck
  | none => .stuck
theorem ds_attAug (ho : DE X T W o fo) (he : DE X T W e fe) (c : Cls X.K C) (n : NoAttr X.K C nm) : DS X T W (.AugAssign (.Attribute o nm pos') .Add e pos) (sAttAug C nm fo fe) := by
  obtain ⟨te, pe, he⟩ := he.run
  obtain ⟨to, po, ho⟩ := ho.run
  refine ⟨_, ps_fldaug po pe in_add, fun G O w r s H D hK hT R hs => ?_⟩
  unfold sAttAug at hs
  rw [Out.sat_bind] at hs
  refine ho G O w r s H _ hK hT R (hs.mono fun od w0 q v0 H0 R0 t0 p0 => ?_)
  split at q
  · rename_i a C' dx fl el
    obtain ⟨rfl, ew⟩ := wIns_eq el
    split at q
    · rename_i hc
      subst hc
      split at q
      · rename_i i hi
        obtain ⟨vs0, hv0, hf0⟩ := R0.wok a _ ew
        cases p0
        obtain ⟨v, h1, h2⟩ := hf0.look.2 _ hi
        cases h2
        refine ⟨a, C', dx, vs0, _, rfl, hv0, c, n, h1, ?_⟩
        rw [Out.sat_bind] at q
        refine he G O w0 r s H0 _ hK hT R0 (q.mono fun d w1 q v1 H1 R1 t1 p1 => ?_)
        split at q
        · rename_i j C2 dx2 fl2 ew2
          split at q
          · rename_i hc2
            obtain ⟨rfl, hl2⟩ := hc2
            obtain ⟨vs2, hv2, hf2⟩ := R1.wok a _ ew2
            cases p1
            obtain ⟨R2, t2⟩ := R1.setF (fl' := putD nm (.int (i + j)) fl2) ew2 (hf2.put (nm := nm) (.int _))
            exact ⟨i, j, rfl, rfl, dx2, vs2, hv2, by rw [hf2.len]; exact hl2, q O s _ R2 ((t0.trans t1).trans t2).tr⟩
          · exact q.elim
        · exact q.elim
      · exact q.elim
    · exact q.elim
  · exact q.elim
/-- o.nm: a property, its getter lets nothing out -/
def eProp (C : Addr) (n : Nat) (m : List D → Om → Out D) (fo : Sl → Om → Out D) : Sl → Om → Out D := fun r w => (fo r w).bind fun o w => match wIns w o with
  | some (a, C', dx, fl) => if C' = C ∧ n = 1 then (m [o] w).calm else .stuck
  | none => .stuck
theorem dx_prop {n : Nat} (ho : DE X T W o fo) (c : Cls X.K C) (hp : PropOf X.K C nm p f) (F : FnN X.prog X.w X.K X.mg X.base T k f n [] m) (room : Room (k + 1) X.A) (hb : attributeBase o nm X.env (eval o X.env) = eval o X.env := by rfl) : DE X T W (.Attribute o nm pos) (eProp C n m fo) := by
  obtain ⟨fd, ps, dus, dvs, g0, g1, g2, g3, g4⟩ := F.ex
  obtain ⟨to, po, ho⟩ := ho.run
  have hd : dvs = [] := by
    have := (g4 (fun _ => False) (fun _ => none)).length
    exact List.eq_nil_of_length_eq_zero this
  subst hd
  refine ⟨_, pe_prop po c hp g1 room g2 g3 passL hb, fun G O w r s H Q hK hT R hs => ?_⟩
  unfold eProp at hs
  rw [Out.sat_bind] at hs
  refine ho G O w r s H _ hK hT R (hs.mono fun od w0 q v0 H0 R0 t0 p0 => ?_)
  split at q
  · rename_i a C' dx fl el
    obtain ⟨rfl, ew⟩ := wIns_eq el
    split at q
    · rename_i hc
      obtain ⟨rfl, rfl⟩ := hc
      obtain ⟨vs0, hv0, hf0⟩ := R0.wok a _ ew
      cases p0
      refine ⟨a, dx, vs0, rfl, hv0, ?_⟩
      refine ⟨rfl, Xs' G O, w0, [.ref a], ?_, ?_, ?_⟩
      · rw [← hK, ← hT]; exact R0.toWor.enter
      · exact .cons (.ref a) .nil
      · refine (Out.sat_calm (E' := fun _ _ _ => False) q).imp (fun d w' q v H' W' p => ?_) (fun e r' w' q => q.elim)
        rw [← hK, ← hT] at W' p
        obtain ⟨W2, t2⟩ := R0.toWor.leave W'
        rw [fx_in_eq] at p
        exact q v H' (R0.of_wor W2 t2) (t0.trans t2) p
    · exact q.elim
  · exact q.elim
end
end DL

set_option Elab.async false
set_option linter.all false
set_option maxRecDepth 100000
set_option maxHeartbeats 2000000
/-! DL15: augmented names, raise, try. -/
namespace DL
open PySem PySem.Spec L2
open PyProof.Rows hiding St

section
variable {X : Cx} {T : Tbl} {W : WX} {C : Addr} {x n : Str} {pos pos' np p : Pos} {e : Expr} {fe : Sl → Om → Out D} {body suite : List Stmt} {b0 : Stmt} {g gs : Sl → Om → Out Res} {c : Value}
/-- name += e, ints (name -= e) -/
def sAugI (i : Nat) (op : Int → Int → Int) (fe : Sl → Om → Out D) : Sl → Om → Out Res := fun r w => match r[i]? with
  | some (.p (.int a)) => (fe r w).bind fun d w => (match d with
    | .int b => .ok (.nx (r.set i (.p (.int (op a b))))) w
    | _ => .stuck)
  | _ => .stuck
theorem ds_augI {i : Nat} {op : Operator} {fop : Int → Int → Int} (ho : PIp X op (ipI fop)) (he : DE X T W e fe) (hN : X.N.Nodup) (hi : X.N[i]? = some x := by rfl) (hx : Loc X.env.scope x := by first | exact .inl rfl | exact .inr rfl)
    (hf : X.fn x = true ∨ X.env.scope.names.lookup x = some .local := by first | exact .inl rfl | exact .inr rfl) : DS X T W (.AugAssign (.Name x pos') op e pos) (sAugI i fop fe) := by
  obtain ⟨te, pe, he⟩ := he.run
  refine ⟨_, ps_aug (i := i) hN hi hx pe ho hf, fun G O w r s H D hK hT R hs => ?_⟩
  unfold sAugI at hs
  split at hs
  · rename_i a ea
    obtain ⟨v, h1, h2⟩ := R.get_p ea
    cases h2
    refine ⟨_, h1, ?_⟩
    rw [Out.sat_bind] at hs
    refine he G O w r s H _ hK hT R (hs.mono fun d w1 q v1 H1 R1 t1 p1 => ?_)
    cases d <;> (try exact q.elim)
    cases p1
    exact ⟨a, _, rfl, rfl, q O _ H1 (R1.set_p i (.int _)) t1.tr⟩
  · exact hs.elim
/-- an exception class without own __init__, raised -/
theorem pmk_own0 {bmB : List Value} {B newId initId : String} (F : ExcBaseFacts B newId initId bmB) (q : PySem.W.excIn X.K C bmB newId = true) (gC : X.mg x = some (.ref C)) (kC : PySem.W.keepIn X.K (.ref C) = true) (rs : Raises X (.ref C)) (hg : Gl X x)
    (hdb : (x == ("__debug__" : Str)) = false := by decide) : PMk X (.Call (.Name x p) [] [] pos) (fun _ H Q => Q (.ref C) none H) := by
  intro pins sh σ H Q inv want
  apply wpAny_Call_Name_kw
  refine ld_glob inv hg gC ?_ hdb
  refine PySem.W.callWith_K0 inv.kIn kC ?_
  show wpAny _ _ (call (.ref C) []) _ _ _
  obtain ⟨bm, N, nm, qn, bs, hdct, sn, sub, ab, col, dd, k0, k1, k2, k3, k5, mN, o1, o2, o3, o4⟩ := exc_obj inv.kIn q
  refine wpAny_call_exc_subT F o4 o1 o2 o3 ?_ (Nat.zero_le _)
  intro h' e made
  exact mk_of inv made rs want (inv.hok.gone made.new)
def sRaise (cn : Str) : Sl → Om → Out Res := fun r w => .exc ⟨cn, []⟩ r w
theorem ds_raise (hc : X.calm = true) (tk : Takes X W) (hm : X.mg x = some (.ref C)) (h : PMk X e (fun _ H Q => Q (.ref C) none H)) : DS X T W (.Raise (some e) none pos) (sRaise x) :=
  ⟨_, ps_raise hc tk h, fun G O w r s H D hK hT R hs => hs (.ref C) none O s H R ⟨C, hm, rfl, .inl ⟨rfl, rfl⟩⟩⟩
/-- what an except clause answers to a class's name -/
def ExmOk (X : Cx) (c : Value) (exm : Str → Option Bool) : Prop := ∀ cn C b, X.mg cn = some (.ref C) → exm cn = some b → PySem.W.exmOne X.K (.ref C) c = some b
def resNo (i : Nat) : Res → Res
  | .nx r => .nx (r.set i .no)
  | .bk r => .bk (r.set i .no)
  | .ct r => .ct (r.set i .no)
  | .rt d => .rt d
/-- try: body, except x as n: suite; nothing is asked of n -/
def sTry (i : Nat) (exm : Str → Option Bool) (g gs : Sl → Om → Out Res) : Sl → Om → Out Res := fun r w => (g r w).catch fun e r' w' => match exm e.cls with
  | some true => ((gs (r'.set i .no) w').calm).bind fun res w => .ok (resNo i res) w
  | some false => .exc e r' w'
  | none => .stuck
theorem calm_dss {gs : Sl → Om → Out Res} {ts : TS} {X' : Cx} (hr : ∀ (G : Gc) (O : List Addr) (w : Om) (r : Sl) (s : L2.St) (H : Hp) (D : Ends), G.K = X'.K → G.T = T → Rel G O w r s H → (gs r w).Sat (OkS G O w H D) (OkX X' G WNo) → ts D s H) : ∀ (G : Gc) (O : List Addr) (w : Om) (r : Sl) (s : L2.St) (H : Hp) (D : Ends) (E : Exn → Sl → Om → Prop), G.K = X'.K → G.T = T → Rel G O w r s H → (gs r w).calm.Sat (OkS G O w H D) E → ts D s H :=
  fun G O w r s H D E hK hT R h => hr G O w r s H D hK hT R (Out.sat_calm h)
theorem OkS.noAt {G : Gc} {O : List Addr} {w : Om} {H : Hp} {D : Ends} {i : Nat} {res : Res} {w' : Om} (h : OkS G O w H D (resNo i res) w') : OkS G O w H { nx := fun σ' H' => D.nx (σ'.set i none) H', rt := D.rt, bk := fun σ' H' => D.bk (σ'.set i none) H', ct := fun σ' H' => D.ct (σ'.set i none) H' } res w' := by
  cases res with
  | nx r => exact fun O' s' H' R t => h O' _ H' (R.set_no i) t
  | bk r => exact fun O' s' H' R t => h O' _ H' (R.set_no i) t
  | ct r => exact fun O' s' H' R t => h O' _ H' (R.set_no i) t
  | rt d => exact h
/-! a state seen from here on -/
def rb (G : Gc) (O : List Addr) (w : Om) (H : Hp) : Gc := { G with H0 := H, w0 := fun a => if a ∈ O then some (.lst []) else w a }
theorem Rel.rebase {G : Gc} {O : List Addr} {w : Om} {H : Hp} {r : Sl} {s : L2.St} (R : Rel G O w r s H) : Rel (rb G O w H) O w r s H :=
  ⟨⟨fun a o e n t => by
    have n' : (if a ∈ O then some (MO.lst []) else w a) = none := n
    by_cases m : a ∈ O
    · rw [if_pos m] at n'; cases n'
    · rw [if_neg m] at n'; exact ⟨e, n', m⟩, R.tabs, R.wok, R.odis, R.wdis, R.xsome, R.osome, R.ltabs⟩, R.slots⟩
theorem Wor.unbase {G : Gc} {O O' : List Addr} {w w' : Om} {H H' : Hp} (W : Wor G O w H) (W' : Wor (rb G O w H) O' w' H') : Wor G O' w' H' ∧ Tr (Fx G O w) H (Fx G O' w') H' := by
  have step : ∀ a o, H a = some o → w a = none → a ∉ O → a ∉ G.T → H' a = some o ∧ w' a = none ∧ a ∉ O' := fun a o e n m t => W'.keep a o e (by
    show (if a ∈ O then some (MO.lst []) else w a) = none
    rw [if_neg m]; exact n) t
  refine ⟨⟨fun a o e n t => ?_, W'.tabs, W'.wok, W'.odis, W'.wdis, W'.xsome, W'.osome, W'.ltabs⟩, fun a o e n => ?_⟩
  · obtain ⟨h1, h2, h3⟩ := W.keep a o e n t
    exact step a o h1 h2 h3 t
  · have n1 : a ∉ O := fun z => n (.inl z)
    have n2 : w a = none := by
      cases q : w a with
      | none => rfl
      | some m => exact absurd (.inr (.inl (by rw [q]; simp))) n
    have n3 : ¬ G.Xs a := fun z => n (.inr (.inr (.inl z)))
    have n4 : a ∉ G.T := fun z => n (.inr (.inr (.inr z)))
    obtain ⟨e1, e2, e3⟩ := step a o e n2 n1 n4
    refine ⟨e1, fun z => ?_⟩
    rcases z with z | z | z | z
    · exact e3 z
    · exact z e2
    · exact n3 z
    · exact n4 z
theorem Rel.unbase {G : Gc} {O O' : List Addr} {w w' : Om} {H H' : Hp} {r' : Sl} {s' : L2.St} (W : Wor G O w H) (R' : Rel (rb G O w H) O' w' r' s' H') : Rel G O' w' r' s' H' ∧ Tr (Fx G O w) H (Fx G O' w') H' :=
  let ⟨h1, h2⟩ := W.unbase R'.toWor
  ⟨⟨h1, R'.slots⟩, h2⟩
theorem OkS.unbase {G : Gc} {O : List Addr} {w : Om} {H : Hp} {D : Ends} {res : Res} {w' : Om} (W : Wor G O w H) (h : OkS G O w H D res w') : OkS (rb G O w H) O w H D res w' := by
  cases res with
  | nx r => exact fun O' s' H' R t => h O' s' H' (Rel.unbase W R).1 (Rel.unbase W R).2
  | bk r => exact fun O' s' H' R t => h O' s' H' (Rel.unbase W R).1 (Rel.unbase W R).2
  | ct r => exact fun O' s' H' R t => h O' s' H' (Rel.unbase W R).1 (Rel.unbase W R).2
  | rt d => exact fun v H' W' p => h v H' (W.unbase W').1 p
theorem ds_try {i : Nat} {exm : Str → Option Bool} (hs : X.stack = X.env :: X.outer) (hf : X.env.frame = some X.env.locals) (hN : X.N.Nodup) (hc : Names X x c) (tk : Takes X W) (hx : ExmOk X c exm)
    (hb : ∀ (W' : WX) (pn : List (Addr × Obj)) (xe : Value → Shared → Prop), Takes (X.tr pn xe) W' → PassesOwn (model X.prog X.w) X.A X.env xe → DSs (X.tr pn xe) T W' body g)
    (hsu : ∀ (a : Addr) (pn : List (Addr × Obj)), DSs (X.suite a pn) T WNo (b0 :: suite) gs)
    (hi : X.N[i]? = some n := by rfl) (hln : X.env.kindOf n = some .local := by rfl) :
    DS X T W (.Try body [.ExceptHandler (some (.Name x np)) (some n) (b0 :: suite) pos'] [] [] pos) (sTry i exm g gs) := by
  let tb : WX → TS := fun W' D σ H => ∀ (pn : List (Addr × Obj)) (xe : Value → Shared → Prop) (h1 : Takes (X.tr pn xe) W') (h2 : PassesOwn (model X.prog X.w) X.A X.env xe), Classical.choose (hb W' pn xe h1 h2).run D σ H
  let ts : Addr → Value → Option Addr → TS := fun a _ _ D σ H => ∀ pn, Classical.choose (hsu a pn).run D σ H
  refine ⟨fun D σ H => tb (wAs X.K c i ts W D) D σ H, ps_try_as hs hf hN hi hln hc tk (tb := tb) (ts := ts) (fun W' pn xe h1 h2 => ⟨fun pins s σ H D I k => (Classical.choose_spec (hb W' pn xe h1 h2).run).1.run pins s σ H D I (k pn xe h1 h2)⟩)
    (fun a oe cls d pn hz ho => ⟨fun pins s σ H D I k => (Classical.choose_spec (hsu a ((a, oe) :: pn)).run).1.run pins s σ H D I (k _)⟩), fun G O w r s H D hK hT R hq => ?_⟩
  intro pn xe h1 h2
  refine (Classical.choose_spec (hb _ pn xe h1 h2).run).2 (rb G O w H) O w r s H D hK hT R.rebase ?_
  unfold sTry at hq
  rw [Out.sat_catch] at hq
  refine hq.imp (fun res w' q => OkS.unbase R.toWor q) (fun e r' w' q cls od O' s' H' R' p => ?_)
  obtain ⟨R2, t2⟩ := Rel.unbase R.toWor R'
  obtain ⟨C, e1, rfl, e3⟩ := p
  split at q
  · rename_i ee
    refine ⟨true, hx _ _ _ e1 ee, fun _ a ha pn2 => ?_, fun z => nomatch z⟩
    rw [Out.sat_bind] at q
    have q2 : ((gs (r'.set i .no) w').calm).Sat (fun res w2 => OkS G O' w' H' { nx := fun σ' H' => D.nx (σ'.set i none) H', rt := D.rt, bk := fun σ' H' => D.bk (σ'.set i none) H', ct := fun σ' H' => D.ct (σ'.set i none) H' } res w2) (fun _ _ _ => False) := by
      refine (Out.Sat.noexc q).mono fun res w2 q3 => OkS.noAt ?_
      have q4 : (Out.ok (resNo i res) w2 : Out Res).Sat (OkS G O w H D) (OkX X G W) := q3
      exact OkS.trans t2 q4
    exact (Classical.choose_spec (hsu a pn2).run).2 G O' w' _ _ H' _ hK hT (R2.set_no i) (Out.sat_calm q2)
  · rename_i ee
    exact ⟨false, hx _ _ _ e1 ee, (fun z => nomatch z), fun _ => q (.ref C) od O' s' H' R2 ⟨C, e1, rfl, e3⟩⟩
  · exact q.elim
end
end DL

set_option Elab.async false
set_option linter.all false
set_option maxRecDepth 100000
set_option maxHeartbeats 2000000
/-! DL16: all of a generator expression whose element may call. -/
namespace DL
open PySem PySem.Spec L2
open PyProof.Rows hiding St

/-! ### the loop of all -/
section
variable {prog : Program} {w : World} {A : Around} {I : Addr} {n : Nat} {St : Nat → Shared → Prop} {QT QF : Shared → Prop} {R : Result → Shared → Prop}
def StepAll (prog : Program) (w : World) (A : Around) (I : Addr) (n : Nat) (St : Nat → Shared → Prop) (QT QF : Shared → Prop) : Prop :=
  ∀ (i : Nat) (s : Shared) (Q : Option Value → Shared → Prop) (E : Value → Shared → Prop), i ≤ n → St i s → (∀ s', QT s' → Q none s') → (∀ s', i < n → St (i + 1) s' → Q (some (.bool true)) s') → (∀ s', QF s' → Q (some (.bool false)) s') → wpAny (model prog w) A.in1 (pyNext (.ref I)) Q E s
theorem code_all (step : StepAll prog w A I n St QT QF) (hT : ∀ s, QT s → R (.ok (.ret (.bool true))) s) (hF : ∀ s, QF s → R (.ok (.ret (.bool false))) s) : ∀ (k i : Nat) (s : Shared), n - i = k → i ≤ n → St i s → codeAny (model prog w) A (.builtin "all.loop" ⟨[.ref I], []⟩) R s := by
  intro k
  induction k with
  | zero =>
    intro i s hk hi st
    refine codeAny_builtin F.entry_all_loop ?_
    rw [Around.under_plainId F.plain_all_loop _]
    show wpAny _ A.in1 (pyNext (.ref I) >>= _) _ _ s
    apply wpAny_bind
    refine step i s _ _ hi st (fun s' q => wpAny_bind (wpAny_rule (wpAny_pure (hT s' q)))) (fun s' hlt _ => absurd hlt (by omega)) (fun s' q => ?_)
    refine wpAny_bind (wpAny_holding (wpAny_truthy_bool (wpAny_bind (wpAny_letGo ?_))))
    simp only [Bool.false_eq_true, if_false]
    exact wpAny_bind (wpAny_rule (wpAny_pure (hF s' q)))
  | succ k ih =>
    intro i s hk hi st
    refine codeAny_builtin F.entry_all_loop ?_
    rw [Around.under_plainId F.plain_all_loop _]
    show wpAny _ A.in1 (pyNext (.ref I) >>= _) _ _ s
    apply wpAny_bind
    refine step i s _ _ hi st (fun s' q => wpAny_bind (wpAny_rule (wpAny_pure (hT s' q)))) (fun s' hlt st' => ?_) (fun s' q => ?_)
    · refine wpAny_bind (wpAny_holding (wpAny_truthy_bool (wpAny_bind (wpAny_letGo ?_))))
      simp only [if_true]
      exact wpAny_pure ⟨plainId_quiet F.plain_all_loop _, ih (i + 1) s' (by omega) hlt st'⟩
    · refine wpAny_bind (wpAny_holding (wpAny_truthy_bool (wpAny_bind (wpAny_letGo ?_))))
      simp only [Bool.false_eq_true, if_false]
      exact wpAny_bind (wpAny_rule (wpAny_pure (hF s' q)))
theorem call_allJ {s : Shared} {E : Value → Shared → Prop} {Q : Value → Shared → Prop} {a : Addr} (self : ∀ (Q : Value → Shared → Prop) E, Q (.ref a) s → wpAny (model prog w) A.in1 (pyIter (.ref a)) Q E s) (step : StepAll prog w A a n St QT QF) (st : St 0 s)
    (hT : ∀ s, QT s → Q (.bool true) s) (hF : ∀ s, QF s → Q (.bool false) s) : wpAny (model prog w) A (call (.builtin "all") [.ref a]) Q E s := by
  refine call_function_tree F.kind_all F.plain_all F.entry_all (F.args_all1 _) ?_
  unfold Builtin.«all»
  refine wpAny_bind (m := oneArg "all" _) (wpAny_pure ?_)
  refine wpAny_bind (self _ _ ?_)
  exact wpAny_pure ⟨plainId_quiet F.plain_all_loop _, code_all step hT hF n 0 s rfl (Nat.zero_le _) st⟩
end

/-! ### the generator's frame -/
abbrev Gx (X : Cx) (A : Around) (s : Shared) (H : Hp) (cenv : Env) (fp : List Addr) : Cx := { X with A := A, s_0 := s, H_0 := H, env := cenv, outer := X.stack, stack := cenv :: X.stack, ex := fp, calm := true, fn := fun _ => false, pn := [], xe := fun _ _ => False }
abbrev gEnv (X : Cx) (scope : Scope) (C : Addr) (code : Value) : Env := genEnv scope (cloFrom X.env.cells scope.names []) C code builtinsNs X.env
section
variable {X : Cx} {pins : List (Addr × Obj)} {σ : L2.St} {H : Hp} {s : Shared} {scope : Scope} {own : List (Str × Nat)} {fp : List Addr}
theorem gen_start (inv : Inv X pins σ H s) (ok : BlkOk X.N X.env.scope scope own) (hN : X.N.Nodup) (ncell : ∀ y ∈ scope.names, y.2 ≠ .cell) (hfp : ∀ b ∈ fp, FpOk X pins H b ∧ b < s.heap.objs.size) {A : Around} {code : Value} (hA : A.handled = none)
    (hfr : A.frames = some (gEnv X scope s.heap.objs.size code :: X.stack)) {s' : Shared} {m : Str → Option Value} (ns : s'.heap.Ns s.heap.objs.size m) (kp : ∀ b o, s.heap.get? b = some o → s'.heap.get? b = some o) (os : s'.os = s.os) (bare : AllBare s'.gens) :
    Inv (Gx X A s H (gEnv X scope s.heap.objs.size code) fp) [] (wipe σ (own.map (·.2))) H s' := by
  have frees : ∀ y ∈ scope.names, y.2 = .free → ∃ c, X.env.cells.lookup y.1 = some c := fun y hy e => (ok.free y hy e).elim (fun k => inv.ok.has _ (.inl k)) (fun k => inv.ok.has _ (.inr k))
  have cm : ∀ {y c}, (cloFrom X.env.cells scope.names []).lookup y = some c → X.env.cells.lookup y = some c := fun {y c} e => by
    rcases cloFrom_mem (PySem.mem_of_lookup e) with hm | ⟨h1, rfl⟩
    · cases hm
    · obtain ⟨c, hc⟩ := frees _ h1 rfl
      rw [hc]; rfl
  have look : ∀ {y}, scope.names.lookup y = some .free → ∃ c, (cloFrom X.env.cells scope.names []).lookup y = some c ∧ X.env.cells.lookup y = some c := fun {y} hl => by
    obtain ⟨c, e⟩ := mem_lookup (cloFrom_has (cells := X.env.cells) (acc := []) (PySem.mem_of_lookup hl))
    exact ⟨c, e, cm e⟩
  have good : (Gx X A s H (gEnv X scope s.heap.objs.size code) fp).Ok := by
    refine ⟨inv.ok.mod, ok.kind, inv.ok.glob, rfl, Nat.le_refl _, fun y z c e1 e2 => inv.ok.inj y z c (cm e1) (cm e2), fun y hy => ?_, fun y c z _ => (nomatch z), fun _ => hA, hfr, .inr ⟨rfl, rfl⟩, fun b hb => ⟨Nat.ne_of_lt (hfp b hb).2, fun y c e => (hfp b hb).1.2.2.2.2.1 y c (cm e)⟩,
      inv.bs, Nat.le_trans inv.ok.bsz inv.sz, fun b o e hb => ?_, fun b hb z => ?_, inv.stack, inv.stkFree⟩
    · rcases hy with hy | hy
      · exact absurd rfl (ncell _ (PySem.mem_of_lookup (show scope.names.lookup y = some .cell from hy)))
      · obtain ⟨c, h1, _⟩ := look (show scope.names.lookup y = some .free from hy)
        exact ⟨c, h1⟩
    · rcases (hfp b hb).1.2.2.2.1 with z | z
      · exact inv.ok.noex b o e z
      · exact absurd (Nat.lt_of_lt_of_le (Heap.lt_size e) (Nat.le_trans inv.ok.bsz z)) (Nat.lt_irrefl _)
    · rcases List.mem_cons.mp (inv.stkSub b z) with z | z
      · exact (hfp b hb).1.2.1 z
      · exact (hfp b hb).1.2.2.1 z
  refine ⟨good, os, bare, Un.kept kp, ⟨m, ns, fun i y av e1 e2 e3 => ?_⟩, fun y c e => ?_, inv.hok.fresh (Nat.le_refl _), fun y c e => inv.freeC y c (cm e), fun p hp => absurd (show p ∈ ([] : List (Addr × Obj)) ++ [] from hp) (by simp), inv.hok.kept kp, by rw [wipe_length]; exact inv.len⟩
  · obtain ⟨e2, hne⟩ := wipe_some e2
    have hfree : scope.names.lookup y = some .free := by
      have vis : Vis scope y := e3
      have no : ∀ k, scope.names.lookup y = some k → ¬ (k = .local ∨ k = .cell) := fun k hk hh => by
        rcases ok.own _ (PySem.mem_of_lookup hk) hh with e' | e'
        · obtain ⟨p, hp, hpy⟩ := List.mem_map.mp e'
          have e4 := ok.ix p hp
          have py : p.1 = y := hpy
          rw [py] at e4
          exact hne (List.mem_map.mpr ⟨p, hp, nodup_ix hN e4 e1⟩)
        · exact e' (List.mem_of_getElem? e1)
      rcases vis with v | v | v
      · exact absurd (.inl rfl) (no _ v)
      · exact absurd (.inr rfl) (no _ v)
      · exact v
    obtain ⟨m0, hn, hl⟩ := inv.loc
    have hvis : Vis X.env.scope y := (ok.free _ (PySem.mem_of_lookup hfree) rfl).elim (fun k => .inr (.inl k)) (fun k => .inr (.inr k))
    obtain ⟨u, r, q⟩ := hl i y av e1 e2 hvis
    obtain ⟨c, h1, h2⟩ := look hfree
    refine ⟨u, r, .inr ⟨.inr hfree, c, h1, ?_⟩⟩
    rcases q with ⟨k, _⟩ | ⟨_, c', e', z⟩
    · have k : X.env.scope.names.lookup y = some .local := k
      rcases ok.free _ (PySem.mem_of_lookup hfree) rfl with k' | k' <;> rw [show X.env.scope.names.lookup y = _ from k'] at k <;> cases k
    · rw [h2] at e'
      cases e'
      exact z.keeps kp
  · obtain ⟨v, z⟩ := inv.cell y c (cm e)
    exact ⟨v, z.keeps kp⟩
/-- the same heap, other generators -/
theorem Inv.regen {s' : Shared} (inv : Inv X pins σ H s) (hh : s'.heap = s.heap) (ho : s'.os = s.os) (hb : AllBare s'.gens) : Inv X pins σ H s' := by
  obtain ⟨h1, g1, d1, t1, o1⟩ := s'
  obtain ⟨h2, g2, d2, t2, o2⟩ := s
  cases hh
  cases ho
  exact ⟨inv.ok, inv.os, hb, inv.base, inv.loc, inv.cell, inv.free, inv.freeC, inv.pin, inv.hok, inv.len⟩
end

/-! ### the generator's run -/
def GendR (Y : Cx) (pn0 : List (Addr × Obj)) (σw : L2.St) (QT : Hp → Prop) : GenEnd := fun _ _ r s₁ => r = .ok .next ∧ ∃ H', Inv Y pn0 σw H' s₁ ∧ QT H'
def GenY (Y : Cx) (pn0 : List (Addr × Obj)) (σw : L2.St) (QF : Hp → Prop) : Protocol := fun _ _ v s kap => ∃ (b : Bool) (H' : Hp), v = .bool b ∧ Inv Y pn0 σw H' s ∧ (b = false → QF H') ∧ (b = true → ∀ s', s'.heap = s.heap → s'.os = s.os → AllBare s'.gens → kap (.send .none) s')
section
variable {Y : Cx} {A2 : Around} {elt tg iter : Expr} {scope : Scope} {pos : Pos} {it : Addr} {fp : List Addr} {tn : Nat → Heap → Prop} {J : It} {g : TG} {te : TE} {pn0 : List (Addr × Obj)} {σ0 : L2.St} {vs : List Nat} {QT QF : Hp → Prop} {W : Nat → Hp → Prop} {n : Nat}
def AllTurn (J : It) (g : TG) (te : TE) (σ0 : L2.St) (vs : List Nat) (QT QF : Hp → Prop) (W : Nat → Hp → Prop) (n : Nat) : Prop :=
  ∀ i H, i ≤ n → W i H → (J.stop i H ∧ QT H) ∨ (i < n ∧ J.go i H ∧ ∀ x H', J.yld i H x H' → g x (wipe σ0 vs) H' fun σ2 H2 => wipe σ2 vs = wipe σ0 vs ∧ te σ2 H2 fun y H4 => ∃ b, y = .bl b ∧ (b = false → QF H4) ∧ (b = true → W (i + 1) H4))
theorem seg_all (hA : Y.A = A2.over (.compLoop (.GeneratorExp elt [⟨tg, iter, [], 0⟩] scope pos) 0 (.ref it) .none Y.env) []) (T : Turn Y.prog Y.w Y.K tg J fp it tn) (calm : Y.calm = true) (hco : Y.env.scope.isCoroutine = false) (pg : PG Y tg g) (pe : PE Y elt te) (xe : Y.xe = fun _ _ => False)
    (hfp : ∀ b ∈ fp, b ≠ Y.env.locals ∧ b ∉ Y.fs ∧ (b ∈ Y.ex ∨ Y.s_0.heap.objs.size ≤ b) ∧ (∀ x c, Y.env.cells.lookup x = some c → c ≠ b) ∧ ∀ p ∈ Y.pn ++ pn0, p.1 ≠ b) (turn : AllTurn J g te σ0 vs QT QF W n) :
    ∀ (k i : Nat) (s₀ s : Shared) (H : Hp), n - i = k → i ≤ n → Inv Y pn0 (wipe σ0 vs) H s → tn i s.heap → (∀ b ∈ fp, H b = none) → W i H →
      Seg (model Y.prog Y.w) A2 (GendR Y pn0 (wipe σ0 vs) QT) (GenY Y pn0 (wipe σ0 vs) QF) k s₀ (.compLoop (.GeneratorExp elt [⟨tg, iter, [], 0⟩] scope pos) 0 (.ref it) .none Y.env)
        ((model Y.prog Y.w).den (.compLoop (.GeneratorExp elt [⟨tg, iter, [], 0⟩] scope pos) 0 (.ref it) .none Y.env)) [] s := by
  have stat : ∀ {H' : Hp}, (∀ b ∈ fp, H' b = none) → ∀ b ∈ fp, FpOk Y pn0 H' b := fun h b hb => ⟨h b hb, hfp b hb⟩
  have hy : ∀ v, yieldOut Y.env v = yieldValue v := fun v => by simp only [yieldOut, hco, Bool.false_eq_true, if_false]
  have no : ∀ {α : Type} {t : Sem α} {Q Q' : α → Shared → Prop} {E : Value → Shared → Prop} {s : Shared}, wpAny (model Y.prog Y.w) Y.A t Q Y.xe s → (∀ a s', Q a s' → Q' a s') → wpAny (model Y.prog Y.w) Y.A t Q' E s := fun h hq => by
    rw [xe] at h
    exact thnF h hq
  intro k
  induction k with
  | zero =>
    intro i s₀ s H hk hi inv st nb w
    rcases turn i H hi w with ⟨stop, qt⟩ | ⟨hlt, _⟩
    · show Seg _ A2 _ _ _ s₀ _ ((compTurn (.GeneratorExp elt [⟨tg, iter, [], 0⟩] scope pos) 0 (.ref it) .none Y.env).onRaise (leaving Y.env)) [] s
      rw [compTurn_gen, Sem.onRaise_eq_wrap]
      refine seg_bind_wrap (wpAny_standAt ?_)
      refine seg_bind_wrap ?_
      rw [← hA]
      refine thnF (T.done Y rfl rfl rfl calm i pn0 s _ H (fun _ _ => False) inv (stat nb) st stop) fun r s1 hr => ?_
      obtain ⟨rfl, inv1⟩ := hr
      exact seg_end (.ok .next) ⟨rfl, H, inv1, qt⟩
    · omega
  | succ k ih =>
    intro i s₀ s H hk hi inv st nb w
    show Seg _ A2 _ _ _ s₀ _ ((compTurn (.GeneratorExp elt [⟨tg, iter, [], 0⟩] scope pos) 0 (.ref it) .none Y.env).onRaise (leaving Y.env)) [] s
    rw [compTurn_gen, Sem.onRaise_eq_wrap]
    refine seg_bind_wrap (wpAny_standAt ?_)
    refine seg_bind_wrap ?_
    rw [← hA]
    rcases turn i H hi w with ⟨stop, qt⟩ | ⟨hlt, go, step⟩
    · refine thnF (T.done Y rfl rfl rfl calm i pn0 s _ H (fun _ _ => False) inv (stat nb) st stop) fun r s1 hr => ?_
      obtain ⟨rfl, inv1⟩ := hr
      exact seg_end (.ok .next) ⟨rfl, H, inv1, qt⟩
    · refine thnF (T.item Y rfl rfl rfl calm i pn0 s _ H (fun _ _ => False) inv (stat nb) st go) fun r s1 hr => ?_
      obtain ⟨u, rfl, h1⟩ := hr
      refine seg_bind_wrap ?_
      rw [← hA]
      refine thnF h1 fun _ s2 h2 => ?_
      obtain ⟨x, H2, inv2, r2, y2, st2, nb2⟩ := h2
      have inv2' := inv2.pinned (stat nb2) (T.obj _ _ st2)
      refine seg_bind_wrap ?_
      rw [← hA]
      refine no (pg.run _ s2 _ H2 x u _ inv2' r2 (step x H2 y2)) fun _ s3 h3 => ?_
      obtain ⟨σ3, H3, inv3, hw3, q3⟩ := h3
      refine seg_bind_wrap ?_
      refine wpAny_tests_nil ?_
      simp only [if_true]
      simp only [hy]
      rw [Sem.bind_eq_wrap', Sem.bind_eq_wrap', Sem.wrap_wrap, Sem.wrap_wrap]
      refine seg_wrap ?_
      rw [← hA]
      refine no (pe.run _ s3 σ3 H3 _ inv3 q3) fun v s4 h4 => ?_
      obtain ⟨y, H4, inv4, r4, b, rfl, hf, ht⟩ := h4
      have ev : v = Value.bool b := r4
      subst ev
      have back : Inv Y pn0 (wipe σ0 vs) H4 s4 := inv4.unpinned.weak (by rw [← hw3, wipe_length]) fun j v e => by
        rw [← hw3] at e
        exact (wipe_some e).1
      have pinned : ∀ b ∈ fp, ∀ o, s2.heap.get? b = some o → s4.heap.get? b = some o ∧ H4 b = none := fun b hb o e =>
        let z := inv4.pin (b, o) (List.mem_append_right _ (List.mem_append_right _ (mem_pinsAt hb e)))
        ⟨z.1, z.2.1⟩
      refine seg_at (seg_yield rfl rfl rfl ⟨b, H4, rfl, back, hf, fun hb s' hh ho hbare => ?_⟩)
      refine seg_again rfl (ih (i + 1) s' s' H4 (by omega) hlt (Inv.regen back hh ho hbare) ?_ ?_ (ht hb))
      · rw [hh]
        exact T.keep _ _ _ st2 fun b hb o e => (pinned b hb o e).1
      · intro b hb
        obtain ⟨o, e, _⟩ := T.obj _ _ st2 b hb
        exact (pinned b hb o e).2
theorem seg_all0 (hA : Y.A = A2.over (.compLoop (.GeneratorExp elt [⟨tg, iter, [], 0⟩] scope pos) 0 (.ref it) .none Y.env) []) (T : Turn Y.prog Y.w Y.K tg J fp it tn) (calm : Y.calm = true) (hco : Y.env.scope.isCoroutine = false) (pg : PG Y tg g) (pe : PE Y elt te) (xe : Y.xe = fun _ _ => False)
    (hfp : ∀ b ∈ fp, b ≠ Y.env.locals ∧ b ∉ Y.fs ∧ (b ∈ Y.ex ∨ Y.s_0.heap.objs.size ≤ b) ∧ (∀ x c, Y.env.cells.lookup x = some c → c ≠ b) ∧ ∀ p ∈ Y.pn ++ pn0, p.1 ≠ b) (turn : AllTurn J g te σ0 vs QT QF W n)
    (s₀ s : Shared) (H : Hp) (inv : Inv Y pn0 (wipe σ0 vs) H s) (st : tn 0 s.heap) (nb : ∀ b ∈ fp, H b = none) (w : W 0 H) :
    Seg (model Y.prog Y.w) A2 (GendR Y pn0 (wipe σ0 vs) QT) (GenY Y pn0 (wipe σ0 vs) QF) n s₀ (.compStart (.GeneratorExp elt [⟨tg, iter, [], 0⟩] scope pos) 0 (.ref it) .none Y.env)
        ((model Y.prog Y.w).den (.compStart (.GeneratorExp elt [⟨tg, iter, [], 0⟩] scope pos) 0 (.ref it) .none Y.env)) [] s := by
  have loop := seg_all (n := n) hA T calm hco pg pe xe hfp turn n 0 s₀ s H (Nat.sub_zero _) (Nat.zero_le _) inv st nb w
  show Seg _ A2 _ _ _ s₀ _ ((compStart (.GeneratorExp elt [⟨tg, iter, [], 0⟩] scope pos) 0 (.ref it) .none Y.env).onRaise (leaving Y.env)) [] s
  unfold compStart
  rw [Sem.onRaise_eq_wrap]
  show Seg _ A2 _ _ _ s₀ _ ((ask >>= _).wrap _ _ _ _) [] s
  refine seg_bind_wrap (wpAny_askSetting ?_)
  split
  · exact seg_again rfl loop
  · refine seg_bind_wrap (wpAny_rule ?_)
    show Seg _ A2 _ _ _ s₀ _ ((standAt iter.pos >>= _).wrap _ _ _ _) [] s
    exact seg_bind_wrap (wpAny_standAt (seg_bind_wrap (T.self _ 0 s _ _ st (seg_again rfl loop))))
end
end DL

set_option Elab.async false
set_option linter.all false
set_option maxRecDepth 100000
set_option maxHeartbeats 2000000
/-! DL17: the rule for all of a generator expression. -/
namespace DL
open PySem PySem.Spec L2
open PyProof.Rows hiding St

/-! ### the rule -/
theorem over_gen (A : Around) (elt : Expr) (gens : List Comprehension) (scope : Scope) (pos : Pos) (it acc : Value) (env : Env) : A.over (.compLoop (.GeneratorExp elt gens scope pos) 0 it acc env) [] = A.deeper env := by
  first
    | rfl
    | (obtain ⟨hd, d, fr, gs, u⟩ := A
       simp [Around.over, Around.deeper, marksOver, frameCount, unitsOf, envsOf, guardsOf, pushEnvs, pushGuards, Code.envs, Code.env?, Code.isFrame, Code.guards, Code.isGuard, Code.weight, Code.frames, Code.isCreation, Code.isCaller, Code.cUnits])
def tAllG (P : Addr) (wi : TI) (g : TG) (te : TE) (vs : List Nat) : TE := fun σ H Q => wi σ H fun J H1 => GxR.TabG H1 P ∧ ∀ H2, GxR.Tabbed P H1 H2 → ∃ (n : Nat) (W : Nat → Hp → Prop), W 0 H2 ∧ AllTurn J g te σ vs (fun H' => Q (.bl true) H') (fun H' => Q (.bl false) H') W n
section
variable {X : Cx} {c P : Addr} {elt tg iter : Expr} {scope : Scope} {own : List (Str × Nat)} {p gpos pos : Pos} {wi : TI} {g : TG} {te : TE} {k : Nat}
theorem pe_allG (room : Room (k + 3) X.A) (hg : Gl X "all") (hm : X.mg "all" = none) (TB : GxR.TabB X.base X.mg c P) (hcode : X.env.code = .ref c) (hN : X.N.Nodup) (hi : PI X tg iter wi) (ok : BlkOk X.N X.env.scope scope own) (ncell : ∀ y ∈ scope.names, y.2 ≠ .cell)
    (dot : scope.names.lookup (".0" : Str) = some NameKind.local) (hco : scope.isCoroutine = false)
    (pg : ∀ (A : Around) (s : Shared) (H : Hp) (C : Addr) (code : Value) (fp : List Addr), Room k A → PG (Gx X A s H (gEnv X scope C code) fp) tg g) (pe : ∀ (A : Around) (s : Shared) (H : Hp) (C : Addr) (code : Value) (fp : List Addr), Room k A → PE (Gx X A s H (gEnv X scope C code) fp) elt te)
    (hs : ∀ v, genFold iter X.env v = pure v)
    (he : starEach [.GeneratorExp elt [⟨tg, iter, [], 0⟩] scope gpos] X.env = (false, eval (.GeneratorExp elt [⟨tg, iter, [], 0⟩] scope gpos) X.env) :: starEach [] X.env) :
    PE X (.Call (.Name "all" p) [.GeneratorExp elt [⟨tg, iter, [], 0⟩] scope gpos] [] pos) (tAllG P wi g te (own.map (·.2))) := by
  constructor
  intro pins sh σ H Q inv run
  apply wpAny_Call_Name_kw
  refine ld_blt inv hg hm PyProof.Rows.boot_all ?_
  refine PyProof.Rows.callWith_builtin1 ?_ he (by rfl)
  rw [he]
  show wpAny _ _ (spliced ((false, eval (.GeneratorExp elt [⟨tg, iter, [], 0⟩] scope gpos) X.env) :: backTo pos (starEach [] X.env))) _ _ sh
  apply Calls.spliced_cons
  have frees : ∀ y ∈ scope.names, y.2 = .free → ∃ c, X.env.cells.lookup y.1 = some c := fun y hy e => (ok.free y hy e).elim (fun k => inv.ok.has _ (.inl k)) (fun k => inv.ok.has _ (.inr k))
  refine wpAny_GeneratorExp_make hco (closure_ok frees) ncell dot ok.kind room.depth ?_ hs
  refine thn (hi.run pins sh σ H _ inv run) fun xv s1 h1 => thn h1 fun itv s2 h2 => ?_
  obtain ⟨it, fp, tn, J, H1, rfl, inv2, T, st2, f2, ⟨ps, hP, htr⟩, cont⟩ := h2
  refine ⟨inv2.nolimit, ?_⟩
  have hPs : s2.heap.get? P = some { cls := .none, data := .fields ps } := inv2.hok P _ hP
  have hPlt : P < s2.heap.objs.size := Heap.lt_size hPs
  have cd : PySem.W.CodeHd s2.heap c P := TB.code.keeps fun b u e => inv2.bk b u e
  have fpP : ∀ b ∈ fp, b ≠ P := fun b hb z => by
    have := (f2 b hb).1
    rw [z, hP] at this
    cases this
  have fpLt : ∀ b ∈ fp, b < s2.heap.objs.size := fun b hb => let ⟨o, e, _⟩ := T.obj _ _ st2 b hb; Heap.lt_size e
  have after : ∀ (code : Value) (h3 : Heap) (tk : Nat) (ps' : Array Value), Heap.ExtBut P s2.heap h3 → s2.heap.objs.size ≤ h3.objs.size → h3.get? P = some { cls := .none, data := .fields ps' } → (∃ more, ps' = ps ++ more) → TriplesOk ps'.toList →
      wpAny (model X.prog X.w) X.A (builtinsFor X.env.globals X.env.builtins) (fun bi s₄ =>
        ∀ h', h'.Ns s₄.heap.objs.size (fun y => if y = ".0" then some (.ref it) else none) → Heap.SameBut s₄.heap.objs.size (s₄.heap.push { cls := .type "frame", data := .dict #[] }) h' →
          wpAny (model X.prog X.w) X.A (spliced (backTo pos (starEach [] X.env))) (fun vs s₂ => wpAny (model X.prog X.w) X.A (call (.builtin "all") (.ref h'.objs.size :: vs)) (EP X pins σ Q) X.xe s₂) X.xe { s₄ with
            gens := s₄.gens.push (.fresh (.compStart (.GeneratorExp elt [⟨tg, iter, [], 0⟩] scope gpos) 0 (.ref it) .none (genEnv scope (cloFrom X.env.cells scope.names []) s₄.heap.objs.size code bi X.env))),
            toks := s₄.toks + 1 + 1 + 1,
            heap := h'.push { cls := .type "generator", data := .fields #[.int s₄.gens.size 0, .str "<genexpr>" (s₄.toks + 1), .str (X.env.qual ++ "<genexpr>") (s₄.toks + 1 + 1)] } }) X.xe { s2 with heap := h3, toks := tk } := by
    intro code h3 tk ps' hx hsz hP3 hmore htr3
    obtain ⟨more, rfl⟩ := hmore
    have inv4 : Inv X pins σ (upd H1 P (.tbl (ps ++ more))) { s2 with heap := h3, toks := tk } := GxR.inv_tab (g' := s2.gens) (d' := s2.drawn) inv2 hP (fun b o hb e => hx b o hb e) hP3 inv2.bare
    obtain ⟨bm, ob, e1, e2, e3, e4, e5, e6, e7, e8⟩ := TB.bm
    refine wpAny_builtinsFor (m := X.mg) (by rw [inv4.ok.glob]; exact inv4.mod.glob.keeps inv4.bk) e1 e2 (inv4.bk _ _ e5) e6 e7 e8 ?_
    generalize hs4 : ({ s2 with heap := h3, toks := tk } : Shared) = s4 at inv4 ⊢
    have s4h : s4.heap = h3 := by rw [← hs4]
    have s4sz : s2.heap.objs.size ≤ s4.heap.objs.size := by rw [s4h]; exact hsz
    generalize hH2 : upd H1 P (.tbl (ps ++ more)) = H2 at inv4
    have hH2P : GxR.Tabbed P H1 H2 := ⟨⟨ps ++ more, by rw [← hH2]; exact upd_same, htr3⟩, fun b hb => by rw [← hH2]; exact upd_ne hb⟩
    intro h' hns hsame
    have hsz' : h'.objs.size = s4.heap.objs.size + 1 := by rw [hsame.1, Heap.size_push]
    have keep' : ∀ b o, s4.heap.get? b = some o → h'.get? b = some o := fun b o e => hsame.extBut b o (Nat.ne_of_lt (Heap.lt_size e)) (Heap.get?_push_of_some _ e)
    refine Calls.spliced_nil ?_
    -- the state at the call of all
    generalize hgo : ({ cls := .type "generator", data := .fields #[.int s4.gens.size 0, .str "<genexpr>" (s4.toks + 1), .str (X.env.qual ++ "<genexpr>") (s4.toks + 1 + 1)] } : Obj) = go
    generalize hs5 : ({ s4 with gens := s4.gens.push (.fresh (.compStart (.GeneratorExp elt [⟨tg, iter, [], 0⟩] scope gpos) 0 (.ref it) .none (genEnv scope (cloFrom X.env.cells scope.names []) s4.heap.objs.size code builtinsNs X.env))), toks := s4.toks + 1 + 1 + 1, heap := h'.push go } : Shared) = s5
    have s5h : s5.heap = h'.push go := by rw [← hs5]
    have s5g : s5.gens = s4.gens.push (.fresh (.compStart (.GeneratorExp elt [⟨tg, iter, [], 0⟩] scope gpos) 0 (.ref it) .none (genEnv scope (cloFrom X.env.cells scope.names []) s4.heap.objs.size code builtinsNs X.env))) := by rw [← hs5]
    have s5o : s5.os = s4.os := by rw [← hs5]
    generalize ha : h'.objs.size = a
    have ea : s5.heap.get? a = some go := by
      rw [s5h, ← ha]
      exact Heap.get?_push_size _ (by rw [← hgo]; rfl)
    have keep5 : ∀ b o, s4.heap.get? b = some o → s5.heap.get? b = some o := fun b o e => by rw [s5h]; exact Heap.get?_push_of_some _ (keep' b o e)
    have aC : s4.heap.objs.size < a := by rw [← ha, hsz']; exact Nat.lt_succ_self _
    have bare5 : AllBare s5.gens := by rw [s5g]; exact inv4.bare.push rfl
    let A5 : Around := (X.A.in1.in1).deeper (gEnv X scope s4.heap.objs.size code)
    have room5 : Room k A5 := Room.deeper (k := k) (Room.in1 (k := k + 1) (Room.in1 (k := k + 2) room)) _
    have fpOk : ∀ b ∈ fp, FpOk X pins H2 b ∧ b < s4.heap.objs.size := fun b hb => ⟨⟨by rw [hH2P.2 b (fpP b hb)]; exact (f2 b hb).1, (f2 b hb).2⟩, Nat.lt_of_lt_of_le (fpLt b hb) s4sz⟩
    have invG0 : Inv (Gx X A5 s4 H2 (gEnv X scope s4.heap.objs.size code) fp) [] (wipe σ (own.map (·.2))) H2 s5 := gen_start (A := A5) (code := code) inv4 ok hN ncell fpOk room.hd (Around.frames_deeper inv4.ok.frames) (by rw [s5h]; exact hns.keeps fun b o e => Heap.get?_push_of_some _ e) keep5 s5o bare5
    have a2 : H2 a = none := inv4.hok.fresh (Nat.le_of_lt aC)
    have afs : a ∉ frs X.stack := fun hm => by
      obtain ⟨_, o, ho, _⟩ := inv4.stack.mem hm
      exact absurd (Heap.lt_size ho) (Nat.not_lt.mpr (Nat.le_of_lt aC))
    have invG : Inv (Gx X A5 s4 H2 (gEnv X scope s4.heap.objs.size code) fp) [(a, go)] (wipe σ (own.map (·.2))) H2 s5 := invG0.pins_of fun p hp => by
      rw [List.mem_singleton.mp hp]
      exact ⟨ea, a2, Nat.ne_of_gt aC, afs, fun v z => by rw [← hgo] at z; cases z⟩
    have cm : ∀ {y c}, (cloFrom X.env.cells scope.names []).lookup y = some c → X.env.cells.lookup y = some c := fun {y c} e => by
      rcases cloFrom_mem (PySem.mem_of_lookup e) with hm | ⟨h1, rfl⟩
      · cases hm
      · obtain ⟨c, hc⟩ := frees _ h1 rfl
        rw [hc]; rfl
    have fpG : ∀ b ∈ fp, b ≠ (Gx X A5 s4 H2 (gEnv X scope s4.heap.objs.size code) fp).env.locals ∧ b ∉ (Gx X A5 s4 H2 (gEnv X scope s4.heap.objs.size code) fp).fs ∧ (b ∈ (Gx X A5 s4 H2 (gEnv X scope s4.heap.objs.size code) fp).ex ∨ (Gx X A5 s4 H2 (gEnv X scope s4.heap.objs.size code) fp).s_0.heap.objs.size ≤ b) ∧
        (∀ x c, (Gx X A5 s4 H2 (gEnv X scope s4.heap.objs.size code) fp).env.cells.lookup x = some c → c ≠ b) ∧ ∀ p ∈ (Gx X A5 s4 H2 (gEnv X scope s4.heap.objs.size code) fp).pn ++ [(a, go)], p.1 ≠ b := fun b hb => by
      obtain ⟨⟨q1, q2, q3, q4, q5, q6⟩, q7⟩ := fpOk b hb
      refine ⟨Nat.ne_of_lt q7, fun z => ?_, .inl hb, fun x c e => q5 x c (cm e), fun p hp => ?_⟩
      · rcases List.mem_cons.mp (inv4.stkSub b z) with y | y
        · exact q2 y
        · exact q3 y
      · have hp' : p ∈ [(a, go)] := hp
        rw [List.mem_singleton.mp hp']
        exact Nat.ne_of_gt (Nat.lt_trans q7 aC)
    obtain ⟨n, W, w0, turn⟩ := cont H2 hH2P
    have back : ∀ {σ' : L2.St} {pn : List (Addr × Obj)} {H' : Hp} {s s' : Shared}, Inv (Gx X A5 s4 H2 (gEnv X scope s4.heap.objs.size code) fp) pn σ' H' s → s'.os = s.os → (∀ b o, s.heap.get? b = some o → s'.heap.get? b = some o) → AllBare s'.gens → Inv X pins σ H' s' := fun {σ' pn H' s s'} i o kk b =>
      inv4.call' (ch := fp) (o.trans i.os) (Un.trans i.base (Un.kept kk)) (i.hok.kept kk) b fun b hb => ⟨(fpOk b hb).1.2.2.2.1, (fpOk b hb).1.2.1, (fpOk b hb).1.2.2.2.2.1, (fpOk b hb).1.2.2.2.2.2⟩
    generalize hgn : s4.gens.size = gn
    have gen_at : ∀ {s : Shared}, s.heap.get? a = some go → s.heap.IsGen a gn := fun {s} e => ⟨go, _, _, e, by rw [← hgo], by rw [← hgo, ← hgn], by rw [← hgo]⟩
    let R := GendR (Gx X A5 s4 H2 (gEnv X scope s4.heap.objs.size code) fp) [(a, go)] (wipe σ (own.map (·.2))) (fun H' => Q (.bl true) H')
    let Y := GenY (Gx X A5 s4 H2 (gEnv X scope s4.heap.objs.size code) fp) [(a, go)] (wipe σ (own.map (·.2))) (fun H' => Q (.bl false) H')
    have bareSet : ∀ {s : Shared} {x : GenState}, AllBare s.gens → x.bare = true → AllBare (s.setGen gn x).gens := fun {s x} hb hx y hy => by
      obtain ⟨i, hi⟩ := Array.mem_iff_getElem?.mp hy
      have e : (s.setGen gn x).gens[i]? = if gn = i then (if gn < s.gens.size then some x else none) else s.gens[i]? := Array.getElem?_setIfInBounds
      rw [e] at hi
      split at hi
      · split at hi
        · cases hi
          exact hx
        · cases hi
      · exact hb y (Array.mem_iff_getElem?.mpr ⟨i, hi⟩)
    refine call_allJ (n := n) (St := fun i s => s.heap.get? a = some go ∧ s.heap.NoLimit ∧ AllBare s.gens ∧ ∃ gs, s.gens[gn]? = some gs ∧ gs.Goes (model X.prog X.w) X.A.in1.in1 R Y (n - i) (.send .none) (s.setGen gn .running))
      (QT := fun s => ∃ H', Inv X pins σ H' s ∧ Q (.bl true) H') (QF := fun s => ∃ H', Inv X pins σ H' s ∧ Q (.bl false) H') (fun Q E q => wpAny_pyIter_gen (gen_at ea) q) ?_ ?_ (fun s ⟨H', i, q⟩ => ⟨.bl true, H', i, rfl, q⟩) (fun s ⟨H', i, q⟩ => ⟨.bl false, H', i, rfl, q⟩)
    · intro i s Q' E hi ⟨hga, hlim, hbare, gs, hgs, hgo'⟩ q1 q2 q3
      have hlt : gn + 1 ≤ s.gens.size := (Array.getElem?_eq_some_iff.mp hgs).1
      refine GenW.wpAny_gsz (n := gn + 1) hlt ?_
      refine wpAny_pyNext_genexpQ (n := n - i) (P := fun _ _ s₁ => ∃ H', Inv (Gx X A5 s4 H2 (gEnv X scope s4.heap.objs.size code) fp) [(a, go)] (wipe σ (own.map fun q : Str × Nat => q.2)) H' s₁ ∧ Q (.bl true) H') (Y := Y) room.hd hlim room.depth (gen_at hga) hgs hgo' (fun v s₁ gs' hb hv hsz1 => ?_) (fun s₁ hp h'' hk _ => ?_)
      · obtain ⟨b, H', rfl, i1, hf, ht⟩ := hv
        have bare1 : AllBare (s₁.setGen gn gs').gens := bareSet i1.bare hb
        cases b with
        | false => exact q3 _ ⟨H', back i1 rfl (fun b o e => e) bare1, hf rfl⟩
        | true =>
          have kap := ht rfl ((s₁.setGen gn gs').setGen gn .running) rfl rfl (bareSet bare1 rfl)
          obtain ⟨m, hm⟩ : ∃ m, n - i = m + 1 := by
            cases hni : n - i with
            | zero => rw [hni] at kap; exact kap.elim
            | succ m => exact ⟨m, rfl⟩
          rw [hm] at kap
          refine q2 _ (by omega) ⟨?_, ?_, bare1, gs', ?_, ?_⟩
          · exact (i1.pin (a, go) (List.mem_append_right _ (List.mem_singleton.mpr rfl))).1
          · exact i1.nolimit
          · have hl1 : gn < s₁.gens.size := by rw [GenW.setGen_size] at hsz1; exact hsz1
            simp [Shared.setGen, hl1]
          · have e : n - (i + 1) = m := by omega
            rw [e]
            exact kap
      · obtain ⟨H', i1, q⟩ := hp
        exact q1 _ ⟨H', back i1 rfl hk (bareSet i1.bare rfl), q⟩
    · refine ⟨ea, (back invG rfl (fun b o e => e) bare5).nolimit, bare5, .fresh (.compStart (.GeneratorExp elt [⟨tg, iter, [], 0⟩] scope gpos) 0 (.ref it) .none (genEnv scope (cloFrom X.env.cells scope.names []) s4.heap.objs.size code builtinsNs X.env)), ?_, rfl, ?_⟩
      · rw [s5g, ← hgn]
        exact Array.getElem?_push_size ..
      · refine seg_all0 (Y := Gx X A5 s4 H2 (gEnv X scope s4.heap.objs.size code) fp) (over_gen _ _ _ _ _ _ _ _).symm T rfl hco (pg _ _ _ _ _ _ room5) (pe _ _ _ _ _ _ room5) rfl fpG turn _ _ H2 ?_ ?_ (fun b hb => (fpOk b hb).1.1) w0
        · exact Inv.regen invG rfl rfl (bareSet bare5 rfl)
        · refine T.keep _ _ _ st2 fun b hb o e => ?_
          show s5.heap.get? b = some o
          exact keep5 b o (by rw [s4h]; exact hx b o (fpP b hb) e)
  cases hf : codeAmong gpos ps.toList with
  | none =>
    refine wpAny_genexprCodeX hcode (cd.code hPs htr) (cd.tab hPs) hf fun c' h' tk hx hge hlt hco' _ htab' _ => ?_
    obtain ⟨o1, vs, f1, tf, fl, tg', inF, tx, tt, op, _, _, _, _, _, _, _, _, _, htr', _⟩ := hco'
    exact after _ h' tk _ hx (Nat.le_trans hge (Nat.le_of_lt hlt)) htab'.2 ⟨_, rfl⟩ htr'
  | some cv =>
    refine wpAny_genexprCode_hit hcode (cd.code hPs htr) hf ?_
    exact after cv s2.heap s2.toks ps (Heap.ExtBut.refl _ _) (Nat.le_refl _) hPs ⟨#[], by simp⟩ htr
end
end DL

set_option Elab.async false
set_option linter.all false
set_option maxRecDepth 100000
set_option maxHeartbeats 2000000
/-! DL18: all(..) at D's level; dict displays read at once. -/
namespace DL
open PySem PySem.Spec L2
open PyProof.Rows hiding St

theorem Rel.tab {G : Gc} {O : List Addr} {w : Om} {r : Sl} {s : L2.St} {H H' : Hp} {P : Addr} (R : Rel G O w r s H) (hP : P ∈ G.T) (hL : ∀ p ∈ G.T.ls, p.1 ≠ P) (t : GxR.Tabbed P H H') : Rel G O w r s H' ∧ TrE G w H w H' := by
  obtain ⟨⟨ps, e1, e2⟩, st⟩ := t
  have tre : TrE G w H w H' := fun a o e n k => ⟨by rw [st a fun z => k (z ▸ hP)]; exact e, n⟩
  refine ⟨R.of_wor ⟨fun a o e n k => ?_, fun p hp => ?_, fun a m e => ?_, R.odis, R.wdis, fun a x => ?_, fun a x => ?_, fun p hp => ⟨(R.ltabs p hp).1, (R.ltabs p hp).2.tr tre.tr (st _ (hL p hp))⟩⟩ tre, tre⟩
  · obtain ⟨h1, h2, h3⟩ := R.keep a o e n k
    exact ⟨by rw [st a fun z => k (z ▸ hP)]; exact h1, h2, h3⟩
  · by_cases z : p = P
    · rw [z]; exact ⟨ps, e1, e2⟩
    · obtain ⟨qs, h1, h2⟩ := R.tabs p hp
      exact ⟨qs, by rw [st p z]; exact h1, h2⟩
  · have ne : a ≠ P := fun z => (R.wdis a (by rw [e]; simp)).1 (z ▸ hP)
    exact (R.wok a m e).tr tre.tr fun o q => by rw [st a ne]; exact q
  · by_cases z : a = P
    · rw [z, e1]; simp
    · rw [st a z]; exact R.xsome a x
  · by_cases z : a = P
    · rw [z, e1]; simp
    · rw [st a z]; exact R.osome a x
/-- the arounds of a generator's frame -/
structure GxP (k : Nat) where
  A : Around
  s : Shared
  H : Hp
  C : Addr
  code : Value
  fp : List Addr
  room : Room k A
abbrev Gb (X : Cx) (scope : Scope) {k : Nat} (p : GxP k) : Cx := Gx X p.A p.s p.H (gEnv X scope p.C p.code) p.fp
section
variable {X : Cx} {T : Tbl} {W : WX} {scope : Scope} {tg elt iter : Expr} {ids : List Nat} {bd : D → Sl → Option Sl} {f : Sl → Om → Out D} {fi : Sl → Om → Out (List D)} {k : Nat}
theorem gx_de (h : ∀ p : GxP k, DE (Gb X scope p) T WNo elt f) : ∃ te : TE, (∀ p : GxP k, PE (Gb X scope p) elt te) ∧ ∀ (G : Gc) (O : List Addr) (w : Om) (r : Sl) (s : L2.St) (H : Hp) (Q : VK), G.K = X.K → G.T = T → Rel G O w r s H →
    (f r w).calm.Sat (fun d w' => ∀ v H', Rel G O w' r s H' → TrE G w H w' H' → Rep G.K (Fx G O w') H' v d → Q v H') (fun _ _ _ => False) → te s H Q := by
  refine ⟨fun s H Q => ∀ p, Classical.choose (h p).run s H Q, fun p => ⟨fun pins s σ H Q I k => (Classical.choose_spec (h p).run).1.run pins s σ H Q I (k p)⟩, fun G O w r s H Q hK hT R hs p => ?_⟩
  exact (Classical.choose_spec (h p).run).2 G O w r s H Q hK hT R (Out.sat_calm hs)
theorem gx_dg (h : ∀ p : GxP k, DG (Gb X scope p) tg ids bd) : ∃ g : TG, (∀ p : GxP k, PG (Gb X scope p) tg g) ∧ ∀ (G : Gc) (O : List Addr) (w : Om) (r r' : Sl) (s : L2.St) (H : Hp) (v : V) (d : D) (Q : L2.St → Hp → Prop), G.K = X.K → Rel G O w r s H → Rep G.K (Fx G O w) H v d → bd d r = some r' →
    (∀ s', s'.length = s.length → (∀ i, i ∉ ids → s'[i]? = s[i]?) → Rel G O w r' s' H → Q s' H) → g v s H Q := by
  refine ⟨fun v s H Q => ∀ p, Classical.choose (h p).run v s H Q, fun p => ⟨fun pins s σ H v u Q I k q => (Classical.choose_spec (h p).run).1.run pins s σ H v u Q I k (q p)⟩, fun G O w r r' s H v d Q hK R hv hb q p => ?_⟩
  exact (Classical.choose_spec (h p).run).2 G O w r r' s H v d Q hK R hv hb q
def allGo (bd : D → Sl → Option Sl) (f : Sl → Om → Out D) (r : Sl) : List D → Om → Out D
  | [], w => .ok (.bl true) w
  | d :: ds, w => match bd d r with
    | none => .stuck
    | some r1 => (f r1 w).calm.bind fun y w => match y with
      | .bl true => allGo bd f r ds w
      | .bl false => .ok (.bl false) w
      | _ => .stuck
theorem all_calm {r : Sl} {E : Exn → Sl → Om → Prop} : ∀ {ds : List D} {w : Om} {P : D → Om → Prop}, (allGo bd f r ds w).Sat P E → (allGo bd f r ds w).Sat P fun _ _ _ => False
  | [], w, P, h => h
  | d :: ds, w, P, h => by
    unfold allGo at h ⊢
    split
    · rename_i e
      rw [e] at h
      exact h.elim
    · rename_i r1 e
      rw [e] at h
      rw [Out.sat_bind] at h ⊢
      refine (Out.Sat.noexc h).mono fun y w1 q => ?_
      split
      · exact all_calm q
      · exact q
      · rename_i n1 n2
        split at q
        · exact (n1 rfl).elim
        · exact (n2 rfl).elim
        · exact q.elim
def eAll (vs : List Nat) (fi : Sl → Om → Out (List D)) (bd : D → Sl → Option Sl) (f : Sl → Om → Out D) : Sl → Om → Out D := fun r w => (fi r w).bind fun ds w => allGo bd f (wipeD r vs) ds w
theorem dx_all {c P : Addr} {own : List (Str × Nat)} {p gpos pos : Pos} (room : Room (k + 3) X.A) (hg : Gl X "all") (hm : X.mg "all" = none) (TB : GxR.TabB X.base X.mg c P) (hcode : X.env.code = .ref c) (hP : P ∈ T) (hL : ∀ p ∈ T.ls, p.1 ≠ P) (hN : X.N.Nodup) (hi : BI X T W tg iter fi) (ok : BlkOk X.N X.env.scope scope own)
    (ncell : ∀ y ∈ scope.names, y.2 ≠ .cell) (hids : ∀ i ∈ ids, i ∈ own.map (·.2)) (pg : ∀ q : GxP k, DG (Gb X scope q) tg ids bd) (pe : ∀ q : GxP k, DE (Gb X scope q) T WNo elt f)
    (dot : scope.names.lookup (".0" : Str) = some NameKind.local := by rfl) (hco : scope.isCoroutine = false := by rfl) (hs : ∀ v, genFold iter X.env v = pure v := by intro _; rfl)
    (he : starEach [.GeneratorExp elt [⟨tg, iter, [], 0⟩] scope gpos] X.env = (false, eval (.GeneratorExp elt [⟨tg, iter, [], 0⟩] scope gpos) X.env) :: starEach [] X.env := by rfl) :
    DE X T W (.Call (.Name "all" p) [.GeneratorExp elt [⟨tg, iter, [], 0⟩] scope gpos] [] pos) (eAll (own.map (·.2)) fi bd f) := by
  obtain ⟨wi, pi, hi⟩ := hi.run
  obtain ⟨g, pg, hg'⟩ := gx_dg pg
  obtain ⟨te, pe, he'⟩ := gx_de pe
  refine ⟨_, pe_allG (k := k) room hg hm TB hcode hN pi ok ncell dot hco (fun A s H C code fp rm => pg ⟨A, s, H, C, code, fp, rm⟩) (fun A s H C code fp rm => pe ⟨A, s, H, C, code, fp, rm⟩) hs he, fun G O w r s H Q hK hT R hs => ?_⟩
  unfold eAll at hs
  rw [Out.sat_bind] at hs
  refine hi G O w r s H _ hK hT R (hs.mono fun ds w1 q J H1 R1 t1 p1 => ?_)
  have hPT : P ∈ G.T := by rw [hT]; exact hP
  refine ⟨R1.tabs P hPT, fun H2 tb => ?_⟩
  obtain ⟨R2, t2⟩ := R1.tab hPT (by rw [hT]; exact hL) tb
  refine ⟨ds.length, fun i Hc => ∃ w', Rel G O w' r s Hc ∧ TrE G w1 H1 w' Hc ∧ (allGo bd f (wipeD r (own.map (·.2))) (ds.drop i) w').Sat (fun d w' => ∀ v H', Rel G O w' r s H' → TrE G w H w' H' → Rep G.K (Fx G O w') H' v d → Q v H') (fun _ _ _ => False), ⟨w1, R2, t2, all_calm q⟩, ?_⟩
  rintro i Hc hi1 ⟨w', R', t', q'⟩
  have J1 := p1 (Fx G O w') Hc (fun a o e n => (t' a o e (by
    cases z : w1 a with
    | none => rfl
    | some m => exact absurd (.inr (.inl (by rw [z]; simp))) n) fun z => n (.inr (.inr (.inr z)))).1) t'.tr i
  by_cases hie : i = ds.length
  · refine .inl ⟨J1.1 hie, ?_⟩
    rw [hie, List.drop_length] at q'
    exact q' (.bl true) Hc R' (t1.trans t') (.bl true)
  · have hlt : i < ds.length := Nat.lt_of_le_of_ne hi1 hie
    obtain ⟨hgo, hy⟩ := J1.2 _ (List.getElem?_eq_getElem hlt)
    rw [List.drop_eq_getElem_cons hlt] at q'
    unfold allGo at q'
    split at q'
    · exact q'.elim
    rename_i r1 hr1
    rw [Out.sat_bind] at q'
    refine .inr ⟨hlt, hgo, fun x H' y => ?_⟩
    obtain ⟨R3, t3, p3⟩ := YOk.rel (R'.wipe (own.map (·.2))) (hy x H' y)
    refine hg' G O w' _ r1 _ H' x _ _ hK R3 p3 hr1 fun s' l' k' R4 => ⟨?_, ?_⟩
    · rw [wipe_eq (s := wipe s (own.map (·.2))) l' fun j hj => k' j fun z => hj (hids j z), wipe_wipe]
    · refine he' G O w' r1 s' H' _ hK hT R4 (q'.mono fun yd w2 q2 yv H5 R5 t5 p5 => ?_)
      have R6 : Rel G O w2 r s H5 := R'.of_wor R5.toWor (t3.trans t5)
      cases yd <;> (try exact q2.elim)
      rename_i b
      cases p5
      refine ⟨b, rfl, fun hb => ?_, fun hb => ?_⟩
      · subst hb
        exact q2 (.bl false) H5 R6 (((t1.trans t').trans t3).trans t5) (.bl false)
      · subst hb
        exact ⟨w2, R6, (t'.trans t3).trans t5, q2⟩
end
end DL

set_option Elab.async false
set_option linter.all false
set_option maxRecDepth 100000
set_option maxHeartbeats 4000000
/-! DL19: tuples repeated; written dicts read at once; two places of a list changed for each other; handles appended to. -/
namespace DL
open PySem PySem.Spec L2
open PyProof.Rows hiding St

/-! ### tuple * int -/
theorem tuple_mul1 (l : Addr) (items : Array Value) (n : Nat) (dd : Option Addr) (sl : Array (Option Value)) (u : Tok) :
    Meets (Builtin.«tuple.__mul__» ⟨[.ref l, .int 1 u], []⟩) (fun _ R s => s.heap.get? l = some { cls := .type "tuple", dict := dd, data := .seq items n, slots := sl } ∧ R (.ok (.ret (Value.ref l))) s) :=
  .of_wp fun prog w A R s h => by
    obtain ⟨hp, g, d, tk, os⟩ := s
    obtain ⟨hl, h⟩ := h
    have f1 := AutoSeq1.idx_int
    wp_walk using wpAny_loadPart' hl
    exact ⟨_, rfl, h⟩
def rRep1 (K : PySem.W.Frag) : R2 := fun x y H Q => ∃ l xs, x = .ref l ∧ y = .int 1 ∧ SqT K H l xs ∧ Q (.ref l) H
theorem op_rep1 {X : Cx} : OpR X (binaryOp .Mult) (rRep1 X.K) := by
  intro pins s σ H x y v u Q I rx ry h
  obtain ⟨l, xs, rfl, rfl, hT, q⟩ := h
  cases rx
  obtain ⟨t, rfl⟩ := ry
  obtain ⟨its, r, ⟨⟨cls, dd, data, sl⟩, ho, hc, n, hd⟩, hs⟩ := I.tuple hT
  simp only at hc hd
  subst hc hd
  exact wpAny_binaryOp_repeat_ref (T := "tuple") (U := "int") (by decide) ⟨_, ho, rfl⟩ (fun s' => typeIs_int s' 1 t) noFill_tuple_mul F.fills_int_mul F.slot_int_rmul repeat_tuple F.slot_int_index.lookup
    (call_meets F.slot_int_rmul (typeIs_int s 1 t) F.entry_int_rmul (F.args_int_rmul_2 _ _) (int_rmul_tuple 1 t l its.toArray n dd sl)
      ⟨ho, rfl, ⟨_, ho, rfl⟩, call_meets F.slot_tuple_mul ⟨_, ho, rfl⟩ F.entry_tuple_mul (F.args_tuple_mul_2 _ _) (tuple_mul1 l its.toArray n dd sl t) ⟨ho, .ref l, H, I, rfl, q⟩⟩)
def repD (n : Nat) (l : List D) : List D := (List.replicate n l).flatten
def dRep : D → D → Om → Out D := fun x y w => match x, y with
  | .tup l, .int k => if l = [] then .stuck else if k = 1 then .ok (.tup l) w else if 2 ≤ k ∧ k ≤ 1000 ∧ l.length ≤ 1000 then .ok (.tup (repD k.toNat l)) w else .stuck
  | _, _ => .stuck
section
variable {X : Cx} {T : Tbl} {W : WX} {e a b c o i : Expr} {es : List Expr} {f fo fi fa fb fk : Sl → Om → Out D} {fs : Sl → Om → Out (List D)} {pos p p1 p2 p3 p4 p5 p6 : Pos} {x y z : Str}
theorem od_rep : OpD X T W (fun x y H Q => rRep1 X.K x y H Q ∨ rRepT X.K x y H Q) dRep := by
  intro G O w r s H x y dx dy Q hK hT R px py hs
  unfold dRep at hs
  split at hs
  · rename_i l k
    obtain ⟨a, xs, rfl, h1, h2, h3⟩ := px.tuple
    rw [py.int]
    split at hs
    · exact hs.elim
    rename_i hl
    split at hs
    · rename_i hk
      subst hk
      exact .inl ⟨a, xs, rfl, rfl, by rw [← hK]; exact h1, hs _ H R (TrE.refl _ _ _) h3⟩
    · split at hs
      · rename_i hk
        refine .inr ⟨a, k, xs, rfl, rfl, by rw [← hK]; exact h1, fun z => hl ?_, hk.1, hk.2.1, by rw [h2.length]; exact hk.2.2, fun p hp => ?_⟩
        · have := h2.length
          rw [z] at this
          exact List.eq_nil_of_length_eq_zero this.symm
        · obtain ⟨R2, t2, p2⟩ := new_tup R hp (h2.rep k.toNat)
          exact hs _ _ R2 t2 p2
      · exact hs.elim
  · exact hs.elim
theorem dx_rep (ha : BE X T W a fa) (hb : BE X T W b fb) : DE X T W (.BinOp a .Mult b pos) (e2 fa fb dRep) := dx_2 (te := fun _ t => t) ha hb (fun p q => pe_op (op_rep1.or op_repT) p q) od_rep

/-! ### {'k': e, ..}[k] -/
structure DPs (X : Cx) (T : Tbl) (W : WX) (pos : Pos) (keys : List (Option Expr)) (values : List Expr) (ks : List Str) (fs : Sl → Om → Out (List D)) : Prop where
  run : ∃ trs : List (TE × TE), PPs X pos keys values trs ∧ keys.length = ks.length ∧ values.length = ks.length ∧ keys.all (·.isSome) = true ∧ ∀ (G : Gc) (O : List Addr) (w : Om) (r : Sl) (s : L2.St) (H : Hp) (Q : List (V × V) → Hp → Prop), G.K = X.K → G.T = T → Rel G O w r s H →
    (fs r w).Sat (fun ds w' => ∀ vs H', Rel G O w' r s H' → TrE G w H w' H' → vs.length = ks.length → Reps G.K (Fx G O w') H' vs ds → Q ((ks.zip vs).map fun p => (.str p.1, p.2)) H') (OkX X G W) → tPairs trs s H Q
theorem dps_nil : DPs X T W pos [] [] [] aNil := ⟨_, pps_nil, rfl, rfl, rfl, fun G O w r s H Q hK hT R hs => hs [] H R (TrE.refl _ _ _) rfl .nil⟩
theorem dps_cons {k : Str} {j : Nat} {kp : Pos} {keys : List (Option Expr)} {values : List Expr} {ks : List Str} (hv : DE X T W e f) (hr : DPs X T W pos keys values ks fs) : DPs X T W pos (some (.Constant (.str k) j kp) :: keys) (e :: values) (k :: ks) (aCons f fs) := by
  obtain ⟨te, pe, hv⟩ := hv.run
  obtain ⟨trs, pp, l1, l2, l3, hr⟩ := hr.run
  refine ⟨_, pps_cons pe_str pe pp, by rw [List.length_cons, List.length_cons, l1], by rw [List.length_cons, List.length_cons, l2], by rw [List.all_cons, l3]; rfl, fun G O w r s H Q hK hT R hs => ?_⟩
  unfold aCons at hs
  rw [Out.sat_bind] at hs
  refine hv G O w r s H _ hK hT R (hs.mono fun d w1 q v H1 R1 t1 p1 => ?_)
  rw [Out.sat_bind] at q
  refine hr G O w1 r s H1 _ hK hT R1 (q.mono fun ds w2 q vs H2 R2 t2 hl p2 => ?_)
  have q3 : ∀ vs H', Rel G O w2 r s H' → TrE G w H w2 H' → vs.length = (k :: ks).length → Reps G.K (Fx G O w2) H' vs (d :: ds) → Q (((k :: ks).zip vs).map fun p => (.str p.1, p.2)) H' := q
  exact q3 (v :: vs) H2 R2 (t1.trans t2) (by rw [List.length_cons, List.length_cons, hl]) (.cons (Rep.tr t2.tr _ _ p1) p2)
theorem merge_new : ∀ (kvs acc : List (Key × V)), (acc ++ kvs).map (·.1) |>.Nodup → mergeK acc kvs = acc ++ kvs
  | [], acc, _ => by rw [List.append_nil]; rfl
  | (k, v) :: r, acc, h => by
    have no : (acc.any fun kv => decide (kv.1 = k)) = false := by
      rw [List.any_eq_false]
      intro q hq hk
      have hk' : q.1 = k := of_decide_eq_true hk
      rw [List.map_append, List.map_cons] at h
      have := (List.nodup_append.mp h).2.2 q.1 (List.mem_map.mpr ⟨q, hq, rfl⟩) k (List.mem_cons_self ..)
      exact this hk'
    show mergeK (putK acc k v) r = _
    have e : putK acc k v = acc ++ [(k, v)] := by
      unfold putK
      rw [no]
      exact if_neg Bool.false_ne_true
    rw [e, merge_new r (acc ++ [(k, v)]) (by rw [List.append_assoc]; exact h), List.append_assoc]
    rfl
theorem valV_zip {K : PySem.W.Frag} {F : Addr → Prop} {H : Hp} {z : Str} {d : D} : ∀ {ks : List Str} {vs : List V} {ds : List D}, vs.length = ks.length → Reps K F H vs ds → (ks.zip ds).lookup z = some d → ∃ v, valV ((ks.zip vs).map fun p => ((Sum.inr p.1 : Key), p.2)) (Sum.inr z) = some v ∧ Rep K F H v d
  | [], _, _, _, _, e => by simp at e
  | k :: ks, [], ds, hl, _, _ => by cases hl
  | k :: ks, v :: vs, _, hl, .cons h1 h2, e => by
    rw [List.zip_cons_cons, List.lookup_cons] at e
    rw [List.zip_cons_cons, List.map_cons]
    by_cases hk : k = z
    · subst hk
      rw [beq_self_eq_true] at e
      cases e
      exact ⟨v, valV_pos rfl, h1⟩
    · have hb : (z == k) = false := beq_eq_false_iff_ne.mpr fun q => hk q.symm
      rw [hb] at e
      obtain ⟨v', e1, e2⟩ := valV_zip (Nat.succ.inj hl) h2 e
      exact ⟨v', by rw [valV_neg (show ¬ (Sum.inr k : Key) = Sum.inr z from fun q => hk (Sum.inr.inj q))]; exact e1, e2⟩
def eDict (ks : List Str) (fs : Sl → Om → Out (List D)) (fk : Sl → Om → Out D) : Sl → Om → Out D := fun r w => (fs r w).bind fun ds w => (fk r w).bind fun k w => match k with
  | .str z => (match (ks.zip ds).lookup z with
    | some d => .ok d w
    | none => .stuck)
  | _ => .stuck
/-- a thing just laid that nobody else knows -/
theorem Rel.ownA {G : Gc} {O : List Addr} {w : Om} {H : Hp} {r : Sl} {s : L2.St} {p : Addr} (R : Rel G O w r s H) (hp : H p = none) (u : HO) : Rel G (p :: O) w r s (upd H p u) := by
  obtain ⟨⟨W, O1, n1, sub, hs⟩, _⟩ := R.own (xs := []) hp
  obtain ⟨W2, t2⟩ := W.mutO (a := p) (u := u) (List.mem_cons_self ..)
  have e : upd (upd H p (.lst [])) p u = upd H p u := upd_upd
  rw [e] at W2 t2
  obtain ⟨O2, n2, sub2, hs2⟩ := R.slots
  have eq : O1 = O2 := hs.fn hs2
  subst eq
  refine ⟨W2, O1, n1, sub, hs.tr t2 fun a m o e => ?_⟩
  have ne : a ≠ p := fun z => R.osome a (sub2 a m) (by rw [z]; exact hp)
  rw [upd_ne ne] at e ⊢
  exact e
/-- .. becomes another thing -/
theorem Rel.mutA {G : Gc} {O O1 : List Addr} {w w0 : Om} {H H0 : Hp} {r : Sl} {s : L2.St} {p : Addr} (R0 : Rel G O1 w0 r s H0) (R : Rel G (p :: O) w r s H) (hp : p ∉ O1) (u : HO) : Rel G (p :: O) w r s (upd H p u) ∧ Tr (Fx G (p :: O) w) H (Fx G (p :: O) w) (upd H p u) := by
  obtain ⟨W2, t2⟩ := R.toWor.mutO (a := p) (u := u) (List.mem_cons_self ..)
  obtain ⟨O2, n2, sub2, hs2⟩ := R.slots
  obtain ⟨O3, n3, sub3, hs3⟩ := R0.slots
  have eq : O2 = O3 := hs2.fn hs3
  subst eq
  exact ⟨⟨W2, O2, n2, sub2, hs2.tr t2 fun a m o e => upd_get e fun z => hp (z ▸ sub3 a m)⟩, t2⟩
theorem Rel.dropA {G : Gc} {O : List Addr} {w w0 : Om} {H H0 : Hp} {r : Sl} {s : L2.St} {p : Addr} (R0 : Rel G O w0 r s H0) (R : Rel G (p :: O) w r s H) : Rel G O w r s H := by
  obtain ⟨O2, n2, sub2, hs2⟩ := R.slots
  obtain ⟨O3, n3, sub3, hs3⟩ := R0.slots
  have eq : O2 = O3 := hs2.fn hs3
  subst eq
  exact ⟨R.toWor.drop O (fun a m => List.mem_cons_of_mem _ m) R0.odis.1, O2, n2, sub3, hs2.tr (tr_sub fun a z => fx_grow (fun b m => List.mem_cons_of_mem _ m) z) fun _ _ _ e => e⟩
theorem dx_dict {keys : List (Option Expr)} {values : List Expr} {ks : List Str} {dpos : Pos} (hu : X.A.units + 1 < cLine) (h : DPs X T W dpos keys values ks fs) (hk : DE X T W i fk) (hnd : ks.Nodup := by decide) (h0 : ks ≠ [] := by intro z; cases z) (h15 : ks.length ≤ 15 := by decide) (hs : NoSl i := by exact fun _ _ => rfl) : DE X T W (.Subscript (.Dict keys values dpos) i pos) (eDict ks fs fk) := by
  obtain ⟨trs, pp, l1, l2, l3, h⟩ := h.run
  obtain ⟨ti, pi, hk⟩ := hk.run
  refine ⟨_, pe_dget hu (pe_disp pp l3 (l1.trans l2.symm) (fun z => h0 (List.eq_nil_of_length_eq_zero (by rw [← l1, z]; rfl))) (by rw [l1]; exact h15)) pi hs, fun G O w r s H Q hK hT R hs => ?_⟩
  unfold eDict at hs
  rw [Out.sat_bind] at hs
  intro p hp
  have Op : p ∉ O := fun z => R.osome p z hp
  have R0 := R.ownA hp (.dK [])
  have tb : ∀ (w' : Om) (H' : Hp), TrE G w (upd H p (.dK [])) w' H' → TrE G w H w' H' := fun w' H' t a o e n k => t a o (by rw [upd_ne (ne_of_none e hp)]; exact e) n k
  have hs2 : (fs r w).Sat (fun ds w1 => ((fk r w1).bind fun k w => match k with
      | .str z => (match (ks.zip ds).lookup z with
        | some d => .ok d w
        | none => .stuck)
      | _ => .stuck).Sat (fun d w' => ∀ v H', Rel G O w' r s H' → TrE G w H w' H' → Rep G.K (Fx G O w') H' v d → Q v H') (OkX X G W)) (OkX X G W) := hs
  refine h G (p :: O) w r s _ _ hK hT R0 (hs2.mono fun ds w1 q vs H1 R1 t1 hl p1 => ?_)
  have pO : w1 p = none ∧ p ∉ G.T ∧ ¬ G.Xs p := R1.odis.2 p (List.mem_cons_self ..)
  have pO0 : w p = none ∧ p ∉ G.T ∧ ¬ G.Xs p := R0.odis.2 p (List.mem_cons_self ..)
  obtain ⟨e1, _⟩ := t1 p _ upd_same pO0.1 pO0.2.1
  refine ⟨e1, (ks.zip vs).map fun q => (Sum.inr q.1, q.2), ?_, ?_, ?_⟩
  · rw [List.map_map]; rfl
  · rw [List.length_map, List.length_zip, hl, Nat.min_self]; exact h15
  have hnd2 : (((ks.zip vs).map fun q => ((Sum.inr q.1 : Key), q.2)).map (·.1)).Nodup := by
    rw [List.map_map]
    have : (ks.zip vs).map ((fun q : Key × V => q.1) ∘ fun q : Str × V => ((Sum.inr q.1 : Key), q.2)) = ks.map fun k => (Sum.inr k : Key) := by
      have e : ((fun q : Key × V => q.1) ∘ fun q : Str × V => ((Sum.inr q.1 : Key), q.2)) = (fun k : Str => (Sum.inr k : Key)) ∘ Prod.fst := rfl
      rw [e, ← List.map_map, List.map_fst_zip (Nat.le_of_eq hl.symm)]
    rw [this]
    exact List.Pairwise.map _ (fun a b n q => n (Sum.inr.inj q)) hnd
  rw [merge_new _ [] (by rw [List.nil_append]; exact hnd2), List.nil_append]
  obtain ⟨R2, t2⟩ := Rel.mutA R R1 Op (.dK ((ks.zip vs).map fun q => ((Sum.inr q.1 : Key), q.2)))
  rw [Out.sat_bind] at q
  refine hk G (p :: O) w1 r s _ _ hK hT R2 (q.mono fun k w2 q2 kv H3 R3 t3 p3 => ?_)
  split at q2
  · rename_i z
    split at q2
    · rename_i d hd
      obtain ⟨v, hv, hr⟩ := valV_zip hl p1 hd
      cases p3
      obtain ⟨e3, _⟩ := t3 p _ upd_same pO.1 pO.2.1
      have gr : ∀ a, Fx G O w2 a → Fx G (p :: O) w2 a := fun a z => fx_grow (fun b m => List.mem_cons_of_mem _ m) z
      refine ⟨p, v, rfl, ?_, q2 v H3 (Rel.dropA R R3) (fun a o e n k => ?_) (Rep.tr (tr_sub gr) _ _ (Rep.tr (t2.trans t3.tr) _ _ hr))⟩
      · rw [← hv]
        exact DGet.k (k := Sum.inr z) e3
      · have ne : a ≠ p := ne_of_none e hp
        obtain ⟨g1, g2⟩ := t1 a o (by rw [upd_ne ne]; exact e) n k
        exact t3 a o (by rw [upd_ne ne]; exact g1) g2 k
    · exact q2.elim
  · exact q2.elim
end
end DL

set_option Elab.async false
set_option linter.all false
set_option maxRecDepth 100000
set_option maxHeartbeats 4000000
/-! DL20: two places stored at once; handles: append, pop; sorted downwards. -/
namespace DL
open PySem PySem.Spec L2
open PyProof.Rows hiding St

section
variable {X : Cx} {T : Tbl} {W : WX} {e a b c o i i1 i2 : Expr} {es : List Expr} {f fo fi fa fb f1 f2 : Sl → Om → Out D} {fs : Sl → Om → Out (List D)} {pos p p1 p2 p3 p4 p5 p6 : Pos} {x y z : Str}
/-! ### x[i], x[j] = a, b -/
def stO (n : Nat) (d : D) (fi : Sl → Om → Out D) : Sl → Om → Out Sl := fun r w => match r[n]? with
  | some (.o l) => (fi r w).bind fun k w => (match k with
    | .int k => (match ixN l.length k with
      | some j => .ok (r.set n (.o (l.set j d))) w
      | none => .stuck)
    | _ => .stuck)
  | _ => .stuck
theorem stO_run {G : Gc} {O : List Addr} {w : Om} {r : Sl} {s : L2.St} {H : Hp} {n : Nat} {d : D} {v : V} {ti : TE} {Q : L2.St → Hp → Prop}
    (hi : ∀ (Q : VK), (fi r w).Sat (fun d w' => ∀ v H', Rel G O w' r s H' → TrE G w H w' H' → Rep G.K (Fx G O w') H' v d → Q v H') (OkX X G W) → ti s H Q) (R : Rel G O w r s H) (hv : Rep G.K (Fx G O w) H v d)
    (h : (stO n d fi r w).Sat (fun r' w' => ∀ H', Rel G O w' r' s H' → Tr (Fx G O w) H (Fx G O w') H' → Q s H') (OkX X G W)) : gSub (fun σ H Q => ∃ v, σ[n]? = some (some v) ∧ Q v H) ti rSetL v s H Q := by
  unfold stO at h
  split at h
  · rename_i l hr
    rw [Out.sat_bind] at h
    obtain ⟨a0, xs0, g1, g2, g3, g4⟩ := R.get_o hr
    refine ⟨.ref a0, g1, ?_⟩
    refine hi _ (h.mono fun k w2 q2 kv H2 R2 t2 p2 => ?_)
    split at q2
    · rename_i k2
      split at q2
      · rename_i j hj
        obtain ⟨a1, xs1, m1, m2, m3, m4, m5⟩ := R2.mut (l' := l.set j d) n hr
        rw [g1] at m2
        cases m2
        obtain ⟨R3, t3⟩ := m5 (xs1.set j v) (m4.set j (Rep.tr t2.tr _ _ hv))
        exact ⟨a0, xs1, k2, j, rfl, p2.int', m3, by rw [m4.length]; exact hj, q2 _ R3 (t2.tr.trans t3)⟩
      · exact q2.elim
    · exact q2.elim
  · exact h.elim
def sSwap (n : Nat) (fs : Sl → Om → Out (List D)) (f1 f2 : Sl → Om → Out D) : Sl → Om → Out Res := fun r w => (fs r w).bind fun ds w => match ds with
  | [d1, d2] => (stO n d1 f1 r w).bind fun r w => (stO n d2 f2 r w).bind fun r w => .ok (.nx r) w
  | _ => .stuck
def SubA (X : Cx) (x : Str) (p1 p2 : Pos) (i : Expr) : Prop := ∀ v, assign (.Subscript (.Name x p1) i p2) X.env v = (do
      let ov ← holding [v] (eval (.Name x p1) X.env)
      let iv ← holding [v, ov] (eval i X.env)
      standAt p2
      holding [v, ov, iv] (setItem ov iv v)
      release [v, ov, iv] [])
theorem ds_swap (n : Nat) {kt k2 : Nat} {pt pt2 : Pos} (hc : X.calm = true) (hv : DA X T W [a, b] fs) (h1 : DE X T W i1 f1) (h2 : DE X T W i2 f2) (hN : X.N[n]? = some x := by rfl) (hvis : Vis X.env.scope x := by first | exact Or.inl rfl | exact Or.inr (Or.inl rfl) | exact Or.inr (Or.inr rfl)) (hd : (x == ("__debug__" : Str)) = false := by decide)
    (hcd : (x == ("__classdict__" : Str)) = false := by decide) (a1 : SubA X x p1 p2 i1 := by intro _; rfl) (a2 : SubA X x p3 p4 i2 := by intro _; rfl)
    (hs : swapsWithSole [.Tuple [.Subscript (.Name x p1) i1 p2, .Subscript (.Name x p3) i2 p4] kt pt] (.Tuple [a, b] k2 pt2) pos.line X.env = pure false := by rfl)
    (hw : swappedStores [.Tuple [.Subscript (.Name x p1) i1 p2, .Subscript (.Name x p3) i2 p4] kt pt] (.Tuple [a, b] k2 pt2) X.env = pure none := by rfl)
    (hh : (assignEach [.Tuple [.Subscript (.Name x p1) i1 p2, .Subscript (.Name x p3) i2 p4] kt pt] X.env).map (·.2) = [assign (.Tuple [.Subscript (.Name x p1) i1 p2, .Subscript (.Name x p3) i2 p4] kt pt) X.env] := by rfl)
    (hn : (assignEach [.Subscript (.Name x p1) i1 p2, .Subscript (.Name x p3) i2 p4] X.env).length = 2 := by rfl) (hst : (assignEach [.Subscript (.Name x p1) i1 p2, .Subscript (.Name x p3) i2 p4] X.env).findIdx? (·.1) = none := by rfl)
    (e1 : (assignEach [.Subscript (.Name x p1) i1 p2, .Subscript (.Name x p3) i2 p4] X.env).map (·.2) = assign (.Subscript (.Name x p1) i1 p2) X.env :: (assignEach [.Subscript (.Name x p3) i2 p4] X.env).map (·.2) := by rfl)
    (e2 : (assignEach [.Subscript (.Name x p3) i2 p4] X.env).map (·.2) = assign (.Subscript (.Name x p3) i2 p4) X.env :: (assignEach [] X.env).map (·.2) := by rfl) :
    DS X T W (.Assign [.Tuple [.Subscript (.Name x p1) i1 p2, .Subscript (.Name x p3) i2 p4] kt pt] (.Tuple [a, b] k2 pt2) pos) (sSwap n fs f1 f2) := by
  obtain ⟨ta, pa, hv⟩ := hv.run
  obtain ⟨t1, q1, h1⟩ := h1.run
  obtain ⟨t2, q2, h2⟩ := h2.run
  refine ⟨_, ps_asg (pe_tup pa) (pg_tup hc (pgs_cons (pg_sub (pv n hN hvis hd hcd) q1 set_list a1) (pgs_cons (pg_sub (pv n hN hvis hd hcd) q2 set_list a2) pgs_nil e2) e1) hn hst) hs hw hh, fun G O w r s H D hK hT R hs => ?_⟩
  unfold sSwap at hs
  rw [Out.sat_bind] at hs
  refine hv G O w r s H _ hK hT R (hs.mono fun ds w1 q vs H1 R1 tt1 pv1 => ?_)
  split at q
  · rename_i d1 d2
    obtain ⟨v1, v2, rfl, r1, r2⟩ := reps2 pv1
    refine ⟨by show 2 ≤ sizeLine; decide, fun p hp => ?_⟩
    obtain ⟨R2, tt2⟩ := R1.new (o := .tup [v1, v2]) hp
    refine ⟨p, [v1, v2], rfl, .inl (.inl upd_same), rfl, v1, [v2], rfl, ?_⟩
    rw [Out.sat_bind] at q
    refine stO_run (X := X) (W := W) (fun Q => h1 G O w1 r s _ Q hK hT R2) R2 (Rep.tr tt2.tr _ _ r1) (q.mono fun r' w2 q H3 R3 tt3 => ?_)
    refine ⟨v2, [], rfl, ?_⟩
    rw [Out.sat_bind] at q
    refine stO_run (X := X) (W := W) (fun Q => h2 G O w2 r' s _ Q hK hT R3) R3 (Rep.tr (tt2.tr.trans tt3) _ _ r2) (q.mono fun r'' w3 q H4 R4 tt4 => ?_)
    exact ⟨rfl, q O s H4 R4 (((tt1.trans tt2).tr.trans tt3).trans tt4)⟩
  · exact q.elim
/-! ### handles -/
/-- o.append(e), o a handle -/
def eAppW (fo f : Sl → Om → Out D) : Sl → Om → Out D := fun r w => (fo r w).bind fun h w => match wLst w h with
  | some _ => (f r w).bind fun d w => (match wLst w h with
    | some (a, l) => if l.length < sizeLine then .ok .non (w.set a (.lst (l ++ [d]))) else .stuck
    | none => .stuck)
  | none => .stuck
theorem dx_appW (ho : DE X T W o fo) (he : DE X T W e f)
    (hbase : attributeBase o "append" X.env (eval o X.env) = eval o X.env := by rfl)
    (hfew : ((backTo p3 (starEach [e] X.env)).all (fun x => !x.1) && (backToKw p3 (keywordEach [] X.env)).all (fun x => x.1.isSome)
      && decide ([e].length + ([] : List Keyword).length + (if ([] : List Keyword).isEmpty then 0 else 1) < 30)) = true := by rfl)
    (hline : (p2.endLine == p3.line) = true := by rfl) (hst : starEach [e] X.env = (false, eval e X.env) :: starEach [] X.env := by rfl) (hplain : (backTo p3 (starEach [] X.env)).any (·.1) = false := by rfl) :
    DE X T W (.Call (.Attribute o "append" p2) [e] [] p3) (eAppW fo f) := by
  obtain ⟨te, pe, he⟩ := he.run
  obtain ⟨to, po, ho⟩ := ho.run
  refine ⟨_, pe_bm PySem.F.plainAttrs_list PySem.F.slot_list_append PySem.F.type_list_append mt_append po (pa_cons pe pa_nil hst) hbase hfew hline hst hplain, fun G O w r s H Q hK hT R hs => ?_⟩
  unfold eAppW at hs
  rw [Out.sat_bind] at hs
  refine ho G O w r s H _ hK hT R (hs.mono fun hd w1 q hv H1 R1 t1 p1 => ?_)
  split at q
  · rename_i al el
    obtain ⟨a0, l0⟩ := al
    obtain ⟨rfl, ew, xs, hx, hl⟩ := R1.wl el p1
    refine ⟨own_ty hx, ?_⟩
    rw [Out.sat_bind] at q
    refine he G O w1 r s H1 _ hK hT R1 (q.mono fun d w2 q v H2 R2 t2 p2 => ?_)
    split at q
    · rename_i a l el2
      split at q
      · rename_i hz
        obtain ⟨e0, ew2, xs2, hx2, hl2⟩ := R2.wl el2 (Rep.tr t2.tr _ _ p1)
        cases e0
        obtain ⟨R3, t3⟩ := R2.setL ew2 (hl2.append (.cons p2 .nil))
        have q2 : ∀ v H', Rel G O (w2.set a0 (.lst (l ++ [d]))) r s H' → TrE G w H (w2.set a0 (.lst (l ++ [d]))) H' → Rep G.K (Fx G O (w2.set a0 (.lst (l ++ [d])))) H' v .non → Q v H' := q
        exact ⟨a0, xs2, v, rfl, rfl, hx2, by rw [hl2.length]; exact hz, q2 .non _ R3 ((t1.trans t2).trans t3) .non⟩
      · exact q.elim
    · exact q.elim
  · exact q.elim
end
end DL

set_option Elab.async false
set_option linter.all false
set_option maxRecDepth 100000
set_option maxHeartbeats 2000000
/-! DL21: lambdas: made, kept, called in their own maker's frame. -/
namespace DL
open PySem PySem.Spec L2
open PyProof.Rows hiding St

/-- a lambda's data, its defaults at dV -/
abbrev lamFd (q : Str) (params : Arguments) (body : Expr) (scope : Scope) (cl : List (Str × Addr)) (dV pm cdv ct : Value) : FuncData := { PySem.W.kla_fn "<lambda>" q params body scope cl pm cdv ct with defaults := dV }
abbrev lamObj (q : Str) (params : Arguments) (body : Expr) (scope : Scope) (cl : List (Str × Addr)) (dV pm : Value) (c' : Addr) (ct : Value) : Obj := { cls := .type "function", data := .func (lamFd q params body scope cl dV pm (.ref c') ct) }
section
variable {M : Model} {A : Around} {E : Value → Shared → Prop} {s : Shared} {q : Str} {params : Arguments} {body : Expr} {scope : Scope} {env : Env} {c P : Addr} {ps : Array Value} {pos : Pos} {ln : Nat} {mg : Str → Option Value} {cl : List (Str × Addr)} {dV : Value} {Q : Value → Shared → Prop}
/-- the closure's tuple, if there is one, is laid ahead of the rest -/
theorem tail_clo (hcl : closureFor scope env = pure cl) (rest : ∀ (ct : Value) (s' : Shared), (s' = s ∨ ∃ o, s' = { s with heap := s.heap.push o }) →
      wpAny M A (do
        let code ← functionCode env pos ln "<lambda>" q params scope (.expr body)
        let bi ← builtinsFor env.globals env.builtins
        let nm ← nsGet env.globals "__name__"
        newObj (.type "function") (.func { name := "<lambda>", qualname := q, params, body := .expr body, scope, globals := env.globals, closure := cl, closureTuple := ct, code, builtins := bi, defaults := dV, kwdefaults := .none, annotations := none, pyModule := nm.getD .none, doc := .none })) Q E s') :
    wpAny M A (makeTail "<lambda>" q params (.expr body) scope env dV .none none pos ln) Q E s := by
  unfold makeTail
  rw [hcl]
  apply wpAny_bind
  apply wpAny_pure
  cases cl with
  | nil =>
    simp only [List.isEmpty_nil, if_true]
    apply wpAny_bind
    apply wpAny_pure
    exact rest .none s (.inl rfl)
  | cons x r =>
    simp only [List.isEmpty_cons, Bool.false_eq_true, if_false]
    apply wpAny_bind
    apply wpAny_newTextTuple
    exact rest _ _ (.inr ⟨_, rfl⟩)
/-- what is known of the code object that the lambda bears -/
def CodeNow (h0 h' : Heap) (P : Addr) (q : Str) (ps ps' : Array Value) (pos : Pos) (c' : Addr) : Prop :=
  (codeAmong pos ps.toList = some (.ref c') ∧ ps' = ps) ∨ (h0.objs.size ≤ c' ∧ h'.CodeRec (.ref c') q ∧ ps' = ps ++ #[rawInt pos.line, rawInt pos.col, .ref c'])
theorem lam_tail (hcl : closureFor scope env = pure cl) (hglob : env.globals = mainGlobals) (hns : s.heap.Ns mainGlobals mg) (hcode : env.code = .ref c) (C : PySem.W.CodeHd s.heap c P) (hP : s.heap.get? P = some { cls := .none, data := .fields ps }) (ht : TriplesOk ps.toList) (hgP : mainGlobals ≠ P) (hb : s.heap.BuiltinsAt mg P)
    (hall : ∀ cv, codeAmong pos ps.toList = some cv → ∃ c', cv = .ref c')
    (h : ∀ (c' : Addr) (ct : Value) (h' : Heap) (tk : Nat) (ps' : Array Value), Heap.ExtBut P s.heap h' → s.heap.objs.size ≤ h'.objs.size → c' < h'.objs.size ∨ codeAmong pos ps.toList = some (.ref c') → CodeNow s.heap h' P q ps ps' pos c' → h'.get? P = some { cls := .none, data := .fields ps' } →
      Q (.ref h'.objs.size) { s with heap := h'.push (lamObj q params body scope cl dV ((mg "__name__").getD .none) c' ct), toks := tk }) :
    wpAny M A (makeTail "<lambda>" q params (.expr body) scope env dV .none none pos ln) Q E s := by
  obtain ⟨bm, ob, b1, b2, _, b4, b5, b6, b7, b8⟩ := hb
  refine tail_clo hcl fun ct s' hs' => ?_
  have hk : ∀ b o, s.heap.get? b = some o → s'.heap.get? b = some o := fun b o e => by
    rcases hs' with rfl | ⟨o', rfl⟩
    · exact e
    · exact Heap.get?_push_of_some _ e
  have hz : s.heap.objs.size ≤ s'.heap.objs.size := by
    rcases hs' with rfl | ⟨o', rfl⟩
    · exact Nat.le_refl _
    · show _ ≤ (s.heap.push o').objs.size
      rw [Heap.size_push]; exact Nat.le_succ _
  have eta : ∀ (h' : Heap) (tk : Nat), ({ s' with heap := h', toks := tk } : Shared) = { s with heap := h', toks := tk } := fun h' tk => by
    rcases hs' with rfl | ⟨o', rfl⟩ <;> rfl
  have fin : ∀ (c' : Addr) (h' : Heap) (tk : Nat) (ps' : Array Value), Heap.ExtBut P s'.heap h' → s'.heap.objs.size ≤ h'.objs.size → c' < h'.objs.size ∨ codeAmong pos ps.toList = some (.ref c') → CodeNow s.heap h' P q ps ps' pos c' → h'.get? P = some { cls := .none, data := .fields ps' } →
      wpAny M A (do
        let bi ← builtinsFor env.globals env.builtins
        let nm ← nsGet env.globals "__name__"
        newObj (.type "function") (.func { name := "<lambda>", qualname := q, params, body := .expr body, scope, globals := env.globals, closure := cl, closureTuple := ct, code := .ref c', builtins := bi, defaults := dV, kwdefaults := .none, annotations := none, pyModule := nm.getD .none, doc := .none })) Q E { s' with heap := h', toks := tk } := fun c' h' tk ps' hx hsz hlt hco hP' => by
    have ns' : h'.Ns mainGlobals mg := (hns.keeps hk).extBut hx hgP
    rw [hglob]
    apply wpAny_bind
    refine wpAny_builtinsFor ns' b1 b2 (hx _ _ b4 (hk _ _ b5)) b6 b7 b8 ?_
    apply wpAny_bind
    refine wpAny_nsGet ns' ?_
    refine wpAny_newObj_type ?_ (by size_fits)
    have := h c' ct h' tk ps' (fun b o n e => hx b o n (hk b o e)) (Nat.le_trans hz hsz) hlt hco hP'
    rw [← eta] at this
    exact this
  have C' := C.keeps hk
  have hP2 := hk _ _ hP
  apply wpAny_bind
  cases hf : codeAmong pos ps.toList with
  | none =>
    refine wpAny_functionCodeX hcode (C'.code hP2 ht) (C'.tab hP2) hf ?_
    intro c' h' tk hx hge hlt _ hrec htb _
    exact fin c' h' tk _ hx (Nat.le_trans hge (Nat.le_of_lt hlt)) (.inl hlt) (.inr ⟨Nat.le_trans hz hge, hrec, rfl⟩) htb.2
  | some cv =>
    obtain ⟨c', rfl⟩ := hall cv hf
    refine wpAny_functionCode_hit hcode (C'.code hP2 ht) hf ?_
    have := fin c' s'.heap s'.toks ps (Heap.ExtBut.refl _ _) (Nat.le_refl _) (.inr hf) (.inl ⟨hf, rfl⟩) hP2
    exact this
end
/-- the lambda's object, as it stands -/
def FunO (q : Str) (params : Arguments) (body : Expr) (scope : Scope) (cl : List (Str × Addr)) (dV : Value) (c' f : Addr) : HO := .ext fun h => ∃ pm ct, h.get? f = some (lamObj q params body scope cl dV pm c' ct)
/-- the lambda at f, its defaults ds -/
def LamAt (q : Str) (params : Arguments) (body : Expr) (scope : Scope) (cl : List (Str × Addr)) (ds : List V) (F : Addr → Prop) (H : Hp) (f : Addr) : Prop :=
  ∃ (c' : Addr) (dV : Value), H c' = some (LamX.CodeO c' q) ∧ ¬ F c' ∧ H f = some (FunO q params body scope cl dV c' f) ∧ ((ds = [] ∧ dV = .none) ∨ (ds ≠ [] ∧ ∃ D, dV = .ref D ∧ H D = some (.tup ds) ∧ ¬ F D))
theorem LamAt.tr {q : Str} {params : Arguments} {body : Expr} {scope : Scope} {cl : List (Str × Addr)} {ds : List V} {F F' : Addr → Prop} {H H' : Hp} {f : Addr} (t : Tr F H F' H') (e : ∀ o, H f = some o → H' f = some o) (h : LamAt q params body scope cl ds F H f) : LamAt q params body scope cl ds F' H' f := by
  obtain ⟨c', dV, h1, h2, h3, h4⟩ := h
  refine ⟨c', dV, (t c' _ h1 h2).1, (t c' _ h1 h2).2, e _ h3, ?_⟩
  rcases h4 with h4 | ⟨h5, D, h6, h7, h8⟩
  · exact .inl h4
  · exact .inr ⟨h5, D, h6, (t D _ h7 h8).1, (t D _ h7 h8).2⟩
theorem LamAt.some {q : Str} {params : Arguments} {body : Expr} {scope : Scope} {cl : List (Str × Addr)} {ds : List V} {F : Addr → Prop} {H : Hp} {f : Addr} (h : LamAt q params body scope cl ds F H f) : H f ≠ none := by
  obtain ⟨c', dV, h1, h2, h3, h4⟩ := h
  rw [h3]; simp
/-! ### making -/
/-- the table at P before and behind; H1: what is held behind; f the lambda -/
structure LamNew (q : Str) (params : Arguments) (body : Expr) (scope : Scope) (cl : List (Str × Addr)) (ds : List V) (P : Addr) (ps : Array Value) (H H1 : Hp) (f : Addr) : Prop where
  stay : ∀ b o, b ≠ P → H b = some o → H1 b = some o
  new : H f = none
  at_ : ∃ (c' : Addr) (dV : Value) (ps' : Array Value), H1 P = some (.tbl ps') ∧ TriplesOk ps'.toList ∧ (∀ (pos : Pos) (cv : Value), codeAmong pos ps'.toList = some cv → codeAmong pos ps.toList = some cv ∨ (cv = .ref c' ∧ H c' = none)) ∧
    (H c' = none ∨ ∃ pos, codeAmong pos ps.toList = some (.ref c')) ∧ H1 c' = some (LamX.CodeO c' q) ∧ c' ≠ f ∧ H1 f = some (FunO q params body scope cl dV c' f) ∧
    ((ds = [] ∧ dV = .none) ∨ (ds ≠ [] ∧ ∃ D, dV = .ref D ∧ H D = none ∧ D ≠ f ∧ H1 D = some (.tup ds)))
section
variable {X : Cx} {pins : List (Addr × Obj)} {σ : L2.St} {H : Hp} {s : Shared}
theorem make_lam {c P : Addr} {params : Arguments} {body : Expr} {scope : Scope} {pos : Pos} {ds : List V} {dus : List Value} {ps : Array Value} {E : Value → Shared → Prop} {Q : Value → Shared → Prop} (inv : Inv X pins σ H s) (TB : LamX.TabB X.base X.mg c P) (hcode : X.env.code = .ref c) (hP : H P = some (.tbl ps)) (ht : TriplesOk ps.toList)
    (hall : ∀ (pos : Pos) (cv : Value), codeAmong pos ps.toList = some cv → ∃ c', cv = .ref c' ∧ H c' = some (LamX.CodeO c' (X.env.qual ++ "<lambda>"))) (hfree : ∀ y ∈ scope.names, y.2 = .free → ∃ c, X.env.cells.lookup y.1 = some c) (hd : Vals ds dus) (hz : dus.length ≤ sizeLine)
    (h : ∀ (f : Addr) (H1 : Hp) (s' : Shared), Inv X pins σ H1 s' → LamNew (X.env.qual ++ "<lambda>") params body scope (cloFrom X.env.cells scope.names []) ds P ps H H1 f → Q (.ref f) s') :
    wpAny (model X.prog X.w) X.A (makeFunction "<lambda>" (X.env.qual ++ "<lambda>") params (.expr body) scope X.env dus [] [] pos pos.line) Q E s := by
  have nocl : ∀ {h0 : Heap}, closureFor scope X.env = pure (cloFrom X.env.cells scope.names []) := closure_ok hfree
  -- from a state with the defaults laid
  have tail : ∀ (dV : Value) (s1 : Shared) (H0 : Hp), Inv X pins σ H0 s1 → (∀ b o, H b = some o → H0 b = some o) → (∀ b, H b = none → H0 b = none ∨ (∃ D, dV = .ref D ∧ b = D)) → ((ds = [] ∧ dV = .none) ∨ (ds ≠ [] ∧ ∃ D, dV = .ref D ∧ H D = none ∧ H0 D = some (.tup ds))) →
      wpAny (model X.prog X.w) X.A (makeTail "<lambda>" (X.env.qual ++ "<lambda>") params (.expr body) scope X.env dV .none none pos pos.line) Q E s1 := by
    intro dV s1 H0 inv1 up dn hdf
    have hP0 := up _ _ hP
    have hPs : s1.heap.get? P = some { cls := .none, data := .fields ps } := inv1.hok P _ hP0
    refine lam_tail (mg := X.mg) (c := c) (P := P) (ps := ps) (nocl (h0 := s1.heap)) inv1.ok.glob (inv1.mod.glob.keeps inv1.bk) hcode (TB.code.keeps inv1.bk) hPs ht TB.gP (TB.bm.keeps inv1.bk) (fun cv e => let ⟨c', e1, _⟩ := hall pos cv e; ⟨c', e1⟩) fun c' ct h' tk ps' hx hsz hlt hco hP' => ?_
    -- the code object is known
    have code : ∃ H2, Inv X pins σ H2 { s1 with heap := h', toks := tk } ∧ (∀ b o, b ≠ P → H0 b = some o → H2 b = some o) ∧ (∀ b, s1.heap.objs.size ≤ b → b ≠ c' → H2 b = none) ∧ (H2 P = some (.tbl ps') ∧ TriplesOk ps'.toList ∧ (∀ (pos : Pos) (cv : Value), codeAmong pos ps'.toList = some cv → codeAmong pos ps.toList = some cv ∨ (cv = .ref c' ∧ H0 c' = none))) ∧
        (H0 c' = none ∨ ∃ pos, codeAmong pos ps.toList = some (.ref c')) ∧ H2 c' = some (LamX.CodeO c' (X.env.qual ++ "<lambda>")) ∧ c' < h'.objs.size := by
      rcases hco with ⟨e1, rfl⟩ | ⟨hge, hrec, rfl⟩
      · obtain ⟨c2, e2, e3⟩ := hall pos _ e1
        cases e2
        have e4 := up _ _ e3
        refine ⟨H0, ?_, fun b o _ e => e, fun b hb _ => inv1.hok.fresh hb, ⟨hP0, ht, fun _ _ e => .inl e⟩, .inr ⟨pos, e1⟩, e4, Nat.lt_of_lt_of_le (inv1.hok.lt e4) hsz⟩
        refine inv1.kept fun b o e => ?_
        by_cases hb : b = P
        · rw [hb] at e ⊢
          rw [hPs] at e
          cases e
          exact hP'
        · exact hx b o hb e
      · have nC : H0 c' = none := inv1.hok.fresh hge
        obtain ⟨c2, oc, vs, t, e2, hoc, hdd, hv⟩ := hrec
        cases e2
        have I2 := LamX.inv_table (t' := tk) (more := #[rawInt pos.line, rawInt pos.col, .ref c']) (q := X.env.qual ++ "<lambda>") inv1 hP0 (fun b o hb e => hx b o hb e) hP' hge ⟨oc, vs, t, hoc, hdd, hv⟩
        have nPc : P ≠ c' := ne_of_none hP0 nC
        have eL : (ps ++ #[rawInt pos.line, rawInt pos.col, .ref c']).toList = ps.toList ++ [rawInt pos.line, rawInt pos.col, .ref c'] := by simp
        refine ⟨_, I2, fun b o hb e => by rw [upd_ne (ne_of_none e nC), upd_ne hb]; exact e, fun b hb hbc => by
          rw [upd_ne hbc, upd_ne (fun z => by
            have := inv1.hok.fresh hb
            rw [z, hP0] at this
            cases this)]
          exact inv1.hok.fresh hb, ⟨by rw [upd_ne nPc, upd_same], by rw [eL]; exact PySem.TriplesOk_snoc _ _ _ _ ht, fun p' cv hcv => ?_⟩, .inl nC, upd_same, Heap.lt_size hoc⟩
        rw [eL] at hcv
        rcases LamX.among_app _ ht hcv with z | z
        · exact .inl z
        · exact .inr ⟨z, nC⟩
    obtain ⟨H2, I2, k1, k2, ⟨k3, k4, k5⟩, k6, k7, k8⟩ := code
    -- the function's object
    have fN : H2 h'.objs.size = none := k2 _ hsz (Nat.ne_of_gt k8)
    have I3 : Inv X pins σ (upd H2 h'.objs.size (FunO (X.env.qual ++ "<lambda>") params body scope (cloFrom X.env.cells scope.names []) dV c' h'.objs.size)) { s1 with heap := h'.push (lamObj (X.env.qual ++ "<lambda>") params body scope (cloFrom X.env.cells scope.names []) dV ((X.mg "__name__").getD .none) c' ct), toks := tk } :=
      I2.laid (t' := tk) (fun b o e => Heap.get?_push_of_some _ e) (Nat.le_refl _) ⟨⟨_, _, Heap.get?_push_size _ rfl⟩, ⟨_, Heap.get?_push_size _ rfl⟩, fun h1 h2 ⟨pm, ct, e⟩ st => ⟨pm, ct, st _ e⟩⟩
    have H0f : H0 h'.objs.size = none := inv1.hok.fresh hsz
    have Hf : H h'.objs.size = none := by
      cases q : H h'.objs.size with
      | none => rfl
      | some o => rw [up _ _ q] at H0f; cases H0f
    have back : ∀ b, H0 b = none → H b = none := fun b e => by
      cases q : H b with
      | none => rfl
      | some o => rw [up _ _ q] at e; cases e
    refine h _ _ _ I3 ⟨fun b o hb e => ?_, Hf, c', dV, ps', ?_, k4, fun p cv e => (k5 p cv e).imp id fun z => ⟨z.1, back _ z.2⟩, k6.imp (back _) id, ?_, Nat.ne_of_lt k8, upd_same, ?_⟩
    · have e1 := k1 b o hb (up _ _ e)
      rw [upd_ne (ne_of_none e1 fN)]
      exact e1
    · rw [upd_ne (ne_of_none k3 fN)]; exact k3
    · rw [upd_ne (ne_of_none k7 fN)]; exact k7
    · rcases hdf with hdf | ⟨hne, D, e1, e2, e3⟩
      · exact .inl hdf
      · have nD : D ≠ P := fun z => by rw [z, hP] at e2; cases e2
        have e4 := k1 D _ nD e3
        exact .inr ⟨hne, D, e1, e2, ne_of_none e4 fN, by rw [upd_ne (ne_of_none e4 fN)]; exact e4⟩
  rw [makeFunction_eq]
  cases dus with
  | nil =>
    cases hd
    simp only [List.zip_nil_right, List.filterMap_nil, List.isEmpty_nil, if_true, pure_bind]
    exact tail .none s H inv (fun _ _ e => e) (fun _ e => .inl e) (.inl ⟨rfl, rfl⟩)
  | cons u us =>
    simp only [List.zip_nil_right, List.filterMap_nil, List.isEmpty_nil, List.isEmpty_cons, Bool.false_eq_true, if_true, if_false, pure_bind]
    apply wpAny_bind
    apply wpAny_newTextTuple
    have fr : H s.heap.objs.size = none := inv.hok.fresh (Nat.le_refl _)
    have I1 : Inv X pins σ (upd H s.heap.objs.size (.tup ds)) { s with heap := s.heap.push { cls := .type "tuple", data := .seq (u :: us).toArray } } := inv.laid (t' := s.toks) (fun b o e => Heap.get?_push_of_some _ e) (Nat.le_refl _) ⟨by rw [hd.length]; exact hz, _, hd, IsTup.new _ _⟩
    refine tail (.ref s.heap.objs.size) _ _ I1 (fun b o e => by rw [upd_ne (ne_of_none e fr)]; exact e) (fun b e => ?_) (.inr ⟨fun z => ?_, _, rfl, fr, upd_same⟩)
    · by_cases hb : b = s.heap.objs.size
      · exact .inr ⟨_, rfl, hb⟩
      · exact .inl (by rw [upd_ne hb]; exact e)
    · subst z
      cases hd
end
end DL

set_option Elab.async false
set_option linter.all false
set_option maxRecDepth 100000
set_option maxHeartbeats 2000000
/-! DL22: lambdas at D's level. -/
namespace DL
open PySem PySem.Spec L2
open PyProof.Rows hiding St

/-- written defaults: ints -/
inductive Cst : List Expr → List V → Prop
  | nil : Cst [] []
  | int {k : Int} {j : Nat} {p : Pos} {es : List Expr} {ds : List V} : Cst es ds → Cst (.Constant (.int k) j p :: es) (.int k :: ds)
section
variable {X : Cx} {pins : List (Addr × Obj)} {σ : L2.St} {H : Hp} {s : Shared}
theorem cst_run {E : Value → Shared → Prop} : ∀ {es : List Expr} {ds : List V}, Cst es ds → ∀ {s : Shared} {Q : List Value → Shared → Prop}, Inv X pins σ H s → (∀ us s', Inv X pins σ H s' → Vals ds us → Q us s') → wpAny (model X.prog X.w) X.A (evalAll (evalEach es X.env)) Q E s
  | _, _, .nil, s, Q, inv, h => wpAny_evalAll_nil (h [] s inv .nil)
  | _, _, .int c, s, Q, inv, h => by
    show wpAny _ _ (evalAll (_ :: evalEach _ X.env)) _ _ _
    apply wpAny_evalAll_cons
    refine wpAny_Constant_int ?_
    exact cst_run c (inv.tok _) fun us s' i v => h _ s' i (.cons ⟨_, rfl⟩ v)
def tLamD (P : Addr) (q : Str) (params : Arguments) (body : Expr) (scope : Scope) (cl : List (Str × Addr)) (ds : List V) : TE := fun _ H Q => ∃ ps : Array Value, H P = some (.tbl ps) ∧ TriplesOk ps.toList ∧ (∀ (pos : Pos) (cv : Value), codeAmong pos ps.toList = some cv → ∃ c', cv = .ref c' ∧ H c' = some (LamX.CodeO c' q)) ∧
  ∀ f H1, LamNew q params body scope cl ds P ps H H1 f → Q (.ref f) H1
theorem pe_lamD {c P : Addr} {params : Arguments} {body : Expr} {scope : Scope} {pos : Pos} {es : List Expr} {ds : List V} (TB : LamX.TabB X.base X.mg c P) (hcode : X.env.code = .ref c) (hdef : defaultsOf params X.env = (evalEach es X.env, [])) (hc : Cst es ds) (hz : ds.length ≤ sizeLine)
    (hfree : ∀ y ∈ scope.names, y.2 = .free → X.env.scope.names.lookup y.1 = some .cell ∨ X.env.scope.names.lookup y.1 = some .free) : PE X (.Lambda params body scope pos) (tLamD P (X.env.qual ++ "<lambda>") params body scope (cloFrom X.env.cells scope.names []) ds) := by
  constructor
  intro pins s σ H Q inv ⟨ps, h1, h2, h3, h4⟩
  rw [arm_eval_Lambda, hdef]
  show wpAny _ _ (do let dv ← evalAll (evalEach es X.env); let kdv ← holding dv (evalAllOpt []); makeFunction "<lambda>" (X.env.qual ++ "<lambda>") params (.expr body) scope X.env dv kdv [] pos pos.line) _ _ _
  apply wpAny_bind
  refine cst_run hc inv fun us s1 inv1 r1 => ?_
  apply wpAny_bind
  apply wpAny_holding
  apply wpAny_pure
  have frees : ∀ y ∈ scope.names, y.2 = .free → ∃ c, X.env.cells.lookup y.1 = some c := fun y hy e => (hfree y hy e).elim (fun k => inv.ok.has _ (.inl k)) (fun k => inv.ok.has _ (.inr k))
  exact make_lam inv1 TB hcode h1 h2 h3 frees r1 (by rw [← r1.length]; exact hz) fun f H1 s' inv2 nw => ⟨.ref f, H1, inv2, rfl, h4 f H1 nw⟩
end
section
variable {X : Cx} {T : Tbl} {W : WX}
theorem Rel.lam {G : Gc} {O : List Addr} {w : Om} {H H1 : Hp} {r : Sl} {s : L2.St} {P f : Addr} {q : Str} {params : Arguments} {body : Expr} {scope : Scope} {cl : List (Str × Addr)} {ds : List V} {ps : Array Value} {n : Nat} (R : Rel G O w r s H) (hP : (P, q) ∈ G.T.ls) (hu : ∀ p ∈ G.T.ls, p.1 = P → p.2 = q)
    (e : H P = some (.tbl ps)) (nw : LamNew q params body scope cl ds P ps H H1 f) (hlm : TrE G w H (w.set f (.fn n)) H1 → LamAt q params body scope cl ds (Fx G O (w.set f (.fn n))) H1 f → G.T.lm n (Fx G O (w.set f (.fn n))) H1 f) : Rel G O (w.set f (.fn n)) r s H1 ∧ TrE G w H (w.set f (.fn n)) H1 := by
  have PT : P ∈ G.T := (R.ltabs _ hP).1
  obtain ⟨ps0, e0, _, old⟩ := (R.ltabs _ hP).2
  rw [e] at e0
  cases e0
  obtain ⟨c', dV, ps', p1, p2, p3, p4, p5, p6, p7, p8⟩ := nw.at_
  have nf : ¬ Fx G O w f := R.fresh nw.new
  have tre : TrE G w H (w.set f (.fn n)) H1 := fun a o e n t => by
    have ne : a ≠ f := ne_of_none e nw.new
    exact ⟨nw.stay a o (fun z => t (z ▸ PT)) e, by rw [Om.set_ne ne]; exact n⟩
  have f' : ∀ a, a ≠ f → ¬ Fx G O w a → ¬ Fx G O (w.set f (.fn n)) a := fun a ne z y => by
    rcases y with y | y | y | y
    · exact z (.inl y)
    · rw [Om.set_ne ne] at y; exact z (.inr (.inl y))
    · exact z (.inr (.inr (.inl y)))
    · exact z (.inr (.inr (.inr y)))
  have cF : ¬ Fx G O (w.set f (.fn n)) c' := f' c' p6 (by
    rcases p4 with z | ⟨pos, z⟩
    · exact R.fresh z
    · obtain ⟨c2, e2, _, e4⟩ := old pos _ z
      cases e2
      exact e4)
  have lam : LamAt q params body scope cl ds (Fx G O (w.set f (.fn n))) H1 f := by
    refine ⟨c', dV, p5, cF, p7, ?_⟩
    rcases p8 with z | ⟨z, D, d1, d2, d3, d4⟩
    · exact .inl z
    · exact .inr ⟨z, D, d1, d4, f' D d3 (R.fresh d2)⟩
  refine ⟨R.of_wor ⟨fun a o e k t => ?_, fun p hp => ?_, fun a m em => ?_, ⟨R.odis.1, fun a m => ?_⟩, fun a n' => ?_, fun a x => ?_, fun a m => ?_, fun p hp => ?_⟩ tre, tre⟩
  · obtain ⟨h1, h2, h3⟩ := R.keep a o e k t
    exact ⟨(tre a o h1 h2 t).1, (tre a o h1 h2 t).2, h3⟩
  · by_cases z : p = P
    · rw [z]; exact ⟨ps', p1, p2⟩
    · obtain ⟨qs, h1, h2⟩ := R.tabs p hp
      exact ⟨qs, nw.stay p _ z h1, h2⟩
  · by_cases z : a = f
    · subst z
      rw [Om.set_same] at em
      cases em
      exact hlm tre lam
    · rw [Om.set_ne z] at em
      have ne : a ≠ P := fun z => (R.wdis a (by rw [em]; simp)).1 (z ▸ PT)
      exact (R.wok a m em).tr tre.tr fun o q => nw.stay a o ne q
  · obtain ⟨d1, d2, d3⟩ := R.odis.2 a m
    exact ⟨by rw [Om.set_ne (show a ≠ f from fun z => R.osome a m (by rw [z]; exact nw.new))]; exact d1, d2, d3⟩
  · by_cases z : a = f
    · rw [z]
      exact ⟨fun y => nf (.inr (.inr (.inr y))), fun y => nf (.inr (.inr (.inl y)))⟩
    · rw [Om.set_ne z] at n'
      exact R.wdis a n'
  · obtain ⟨o, ho⟩ := Option.ne_none_iff_exists'.mp (R.xsome a x)
    by_cases z : a = P
    · rw [z, p1]; simp
    · rw [nw.stay a o z ho]; simp
  · obtain ⟨o, ho⟩ := Option.ne_none_iff_exists'.mp (R.osome a m)
    rw [nw.stay a o (fun z => (R.odis.2 a m).2.1 (z ▸ PT)) ho]; simp
  · refine ⟨(R.ltabs p hp).1, ?_⟩
    by_cases z : p.1 = P
    · rw [z, hu p hp z]
      refine ⟨ps', p1, p2, fun pos cv hcv => ?_⟩
      rcases p3 pos cv hcv with y | ⟨y, _⟩
      · obtain ⟨c2, e2, e3, e4⟩ := old pos cv y
        have ne : c2 ≠ P := fun z => by rw [z, e] at e3; exact LamX.codeO_ne ps (Option.some.inj e3).symm
        exact ⟨c2, e2, nw.stay c2 _ ne e3, f' c2 (ne_of_none e3 nw.new) e4⟩
      · exact ⟨c', y, p5, cF⟩
    · obtain ⟨qs, h1, h2, h3⟩ := (R.ltabs p hp).2
      refine ⟨qs, nw.stay _ _ z h1, h2, fun pos cv hcv => ?_⟩
      obtain ⟨c2, e2, e3, e4⟩ := h3 pos cv hcv
      have ne : c2 ≠ P := fun z => by rw [z, e] at e3; exact LamX.codeO_ne ps (Option.some.inj e3).symm
      exact ⟨c2, e2, nw.stay c2 _ ne e3, f' c2 (ne_of_none e3 nw.new) e4⟩
def eLam (n : Nat) : Sl → Om → Out D := fun _ w => .frs w fun a => .ok (.ref a) (w.set a (.fn n))
theorem dx_lam (n : Nat) {c P : Addr} {params : Arguments} {body : Expr} {scope : Scope} {pos : Pos} {es : List Expr} {ds : List V} (TB : LamX.TabB X.base X.mg c P) (hcode : X.env.code = .ref c) (hP : (P, X.env.qual ++ "<lambda>") ∈ T.ls) (hu : ∀ p ∈ T.ls, p.1 = P → p.2 = X.env.qual ++ "<lambda>")
    (hdef : defaultsOf params X.env = (evalEach es X.env, [])) (hc : Cst es ds) (hz : ds.length ≤ sizeLine) (hfree : ∀ y ∈ scope.names, y.2 = .free → X.env.scope.names.lookup y.1 = some .cell ∨ X.env.scope.names.lookup y.1 = some .free)
    (hlm : ∀ F H f, LamAt (X.env.qual ++ "<lambda>") params body scope (cloFrom X.env.cells scope.names []) ds F H f → T.lm n F H f) : DE X T W (.Lambda params body scope pos) (eLam n) := by
  refine ⟨_, pe_lamD TB hcode hdef hc hz hfree, fun G O w r s H Q hK hT R hs => ?_⟩
  subst hT
  obtain ⟨ps, e, t, old⟩ := (R.ltabs _ hP).2
  refine ⟨ps, e, t, fun pos cv h => ?_, fun f H1 nw => ?_⟩
  · obtain ⟨c', e1, e2, _⟩ := old pos cv h
    exact ⟨c', e1, e2⟩
  · obtain ⟨R2, t2⟩ := R.lam hP hu e nw fun _ => hlm _ _ _
    have q : ∀ v H', Rel G O (w.set f (.fn n)) r s H' → TrE G w H (w.set f (.fn n)) H' → Rep G.K (Fx G O (w.set f (.fn n))) H' v (.ref f) → Q v H' := Out.sat_frs.mp hs f (R.wnone nw.new)
    exact q _ H1 R2 t2 (.ref f)
end
/-! ### a call -/
section
variable {X : Cx} {pins : List (Addr × Obj)} {σ : L2.St} {H : Hp} {s : Shared}
abbrev Lx (X : Cx) (s : Shared) (H : Hp) (E : XK) (scope : Scope) (f c' : Addr) : Cx := LamX.lamCx X X.A X.stack s H E scope f c'
theorem lam_enter {E : XK} {scope : Scope} {f c' : Addr} {h₁ : Heap} {tk : Nat} {m : Str → Option Value} (inv : Inv X pins σ H s) (ok : BlkOk X.N X.env.scope scope []) (ncell : ∀ y ∈ scope.names, y.2 ≠ .cell) (hd : X.A.handled = none) (ns : h₁.Ns s.heap.objs.size m) (kp : ∀ b o, s.heap.get? b = some o → h₁.get? b = some o) :
    Inv (Lx X s H E scope f c') [] σ H { s with heap := h₁, toks := tk } := by
  have frees : ∀ y ∈ scope.names, y.2 = .free → ∃ c, X.env.cells.lookup y.1 = some c := fun y hy e => (ok.free y hy e).elim (fun k => inv.ok.has _ (.inl k)) (fun k => inv.ok.has _ (.inr k))
  have cm : ∀ {y c}, (cloFrom X.env.cells scope.names []).lookup y = some c → X.env.cells.lookup y = some c := fun {y c} e => by
    rcases cloFrom_mem (PySem.mem_of_lookup e) with hm | ⟨h1, rfl⟩
    · cases hm
    · obtain ⟨c, hc⟩ := frees _ h1 rfl
      rw [hc]; rfl
  have look : ∀ {y}, scope.names.lookup y = some .free → ∃ c, (cloFrom X.env.cells scope.names []).lookup y = some c ∧ X.env.cells.lookup y = some c := fun {y} hl => by
    obtain ⟨c, e⟩ := mem_lookup (cloFrom_has (cells := X.env.cells) (acc := []) (PySem.mem_of_lookup hl))
    exact ⟨c, e, cm e⟩
  have nox : ∀ b : Addr, b ∉ (Lx X s H E scope f c').ex := fun b z => absurd (show b ∈ ([] : List Addr) from z) (by simp)
  have good : (Lx X s H E scope f c').Ok := by
    refine ⟨inv.ok.mod, ok.kind, rfl, rfl, Nat.le_refl _, fun y z c e1 e2 => inv.ok.inj y z c (cm e1) (cm e2), fun y hy => ?_, fun y c z _ => (nomatch z), fun _ => hd, Around.frames_deeper inv.ok.frames, .inr ⟨rfl, rfl⟩, fun b z => absurd z (nox b), inv.bs, Nat.le_trans inv.ok.bsz inv.sz, fun b _ _ => nox b, fun b z => absurd z (nox b), inv.stack, inv.stkFree⟩
    rcases hy with hy | hy
    · exact absurd rfl (ncell _ (PySem.mem_of_lookup (show scope.names.lookup y = some .cell from hy)))
    · obtain ⟨c, h1, _⟩ := look (show scope.names.lookup y = some .free from hy)
      exact ⟨c, h1⟩
  refine ⟨good, rfl, inv.bare, Un.kept kp, ⟨m, ns, fun i y av e1 e2 e3 => ?_⟩, fun y c e => ?_, inv.hok.fresh (Nat.le_refl _), fun y c e => inv.freeC y c (cm e), fun p hp => absurd (show p ∈ ([] : List (Addr × Obj)) ++ [] from hp) (by simp), inv.hok.kept kp, inv.len⟩
  · have hfree : scope.names.lookup y = some .free := by
      have vis : Vis scope y := e3
      have no : ∀ k, scope.names.lookup y = some k → ¬ (k = .local ∨ k = .cell) := fun k hk hh => by
        rcases ok.own _ (PySem.mem_of_lookup hk) hh with e' | e'
        · exact nomatch e'
        · exact e' (List.mem_of_getElem? e1)
      rcases vis with v | v | v
      · exact absurd (.inl rfl) (no _ v)
      · exact absurd (.inr rfl) (no _ v)
      · exact v
    obtain ⟨m0, hn, hl⟩ := inv.loc
    have hvis : Vis X.env.scope y := (ok.free _ (PySem.mem_of_lookup hfree) rfl).elim (fun k => .inr (.inl k)) (fun k => .inr (.inr k))
    obtain ⟨u, r, q⟩ := hl i y av e1 e2 hvis
    obtain ⟨c, h1, h2⟩ := look hfree
    refine ⟨u, r, .inr ⟨.inr hfree, c, h1, ?_⟩⟩
    rcases q with ⟨k, _⟩ | ⟨_, c', e', z⟩
    · have k : X.env.scope.names.lookup y = some .local := k
      rcases ok.free _ (PySem.mem_of_lookup hfree) rfl with k' | k' <;> rw [show X.env.scope.names.lookup y = _ from k'] at k <;> cases k
    · rw [h2] at e'
      cases e'
      exact z.keeps kp
  · obtain ⟨v, z⟩ := inv.cell y c (cm e)
    exact ⟨v, z.keeps kp⟩
/-- how such a lambda binds nothing written -/
def LamBind (q : Str) (params : Arguments) (body : Expr) (scope : Scope) (ds : List V) (xs : List Str) : Prop :=
  (ds = [] ∧ ∀ (cl : List (Str × Addr)) (pm cv ct : Value), bindArgs (lamFd q params body scope cl .none pm cv ct) ⟨[], []⟩ = pure []) ∨
  (ds ≠ [] ∧ ∀ (cl : List (Str × Addr)) (D : Addr) (pm cv ct : Value) (its : List Value), its.length = ds.length → ∃ k, bindArgs (lamFd q params body scope cl (.ref D) pm cv ct) ⟨[], []⟩ = seqItems? (.ref D) >>= k ∧ k (some its.toArray) = pure (xs.zip its))
theorem lam_call {k : Nat} {params : Arguments} {body : Expr} {scope : Scope} {ds : List V} {xs : List Str} {F : Addr → Prop} {f : Addr} {E : XK} {tb : TE} {Q : VK} (inv : Inv X pins σ H s) (room : Room (k + 1) X.A) (ok : BlkOk X.N X.env.scope scope []) (ncell : ∀ y ∈ scope.names, y.2 ≠ .cell) (hco : scope.isCoroutine = false) (hgen : scope.isGenerator = false)
    (hl : LamAt (X.env.qual ++ "<lambda>") params body scope (cloFrom X.env.cells scope.names []) ds F H f) (hb : LamBind (X.env.qual ++ "<lambda>") params body scope ds xs) (hxs : ∀ x ∈ xs, scope.names.lookup x = some .local) (ps' : PassesAt (L2.CX X.prog X.w) X σ E)
    (hbody : ∀ (c' : Addr) (s : Shared) (H : Hp), Room k (X.A.deeper (LamX.lamEnv X scope s.heap.objs.size f c')) → PE (Lx X s H E scope f c') body tb) (want : tb σ H Q) : wpAny (model X.prog X.w) X.A (call (.ref f) []) (EP X pins σ Q) X.xe s := by
  obtain ⟨c', dV, h1, _, h3, h4⟩ := hl
  obtain ⟨⟨pm, ct, ho⟩, _, _⟩ := inv.hok f _ h3
  obtain ⟨⟨oc, vs, t, hoc, hdc, hvc⟩, _, _⟩ := inv.hok c' _ h1
  have run : codeAny (model X.prog X.w) X.A (.call (.ref f) ⟨[], []⟩) (CR (L2.CX X.prog X.w) X.stack X.prog X.w H s Q E) s := by
    refine PySem.W.kla_callFunE room.depth ho rfl hco hgen rfl ⟨c', oc, vs, t, rfl, hoc, hdc, hvc⟩ ?_
    have go : ∀ (binds : List (Str × Value)), (∀ y ∈ binds, scope.names.lookup y.1 = some .local) → wpAny (model X.prog X.w) X.A.in1 (newFunctionEnv scope mainGlobals (cloFrom X.env.cells scope.names []) binds (X.env.qual ++ "<lambda>" ++ ".<locals>.") (some f) (.ref c') none builtinsNs)
        (fun env s₂ => s₂.heap.NoLimit ∧ codeAny (model X.prog X.w) X.A (.expr body env) (CR (L2.CX X.prog X.w) X.stack X.prog X.w H s Q E) s₂) (fun e s' => CR (L2.CX X.prog X.w) X.stack X.prog X.w H s Q E (.error e) s') s := fun binds hloc => by
      refine wpAny_newFunctionEnv ncell hloc (fun h₁ hns hsb => ⟨inv.nolimit.fresh _ hsb, ?_⟩) ok.kind
      show codeAny _ _ (.expr body (LamX.lamEnv X scope s.heap.objs.size f c')) _ _
      have kp : ∀ b o, s.heap.get? b = some o → h₁.get? b = some o := fun b o e => hsb.extBut b o (Nat.ne_of_lt (Heap.lt_size e)) (Heap.get?_push_of_some _ e)
      have J : Inv (Lx X s H E scope f c') [] σ H { s with heap := h₁, toks := s.toks + binds.length } := lam_enter inv ok ncell room.hd hns kp
      refine PySem.W.kla_codeExpr (wpAny_mono ((hbody c' s H (room.deeper _)).run [] _ _ H Q J want) (fun v s' hq => ?_) fun e s' hq => hq)
      obtain ⟨v', H', J', rv, q⟩ := hq
      exact ⟨v', H', J'.os, J'.bare, J'.base, J'.hok, rv, q⟩
    rcases h4 with ⟨rfl, rfl⟩ | ⟨hne, D, rfl, hD, _⟩
    · rcases hb with ⟨_, hb⟩ | ⟨hb, _⟩
      · show wpAny _ _ (bindArgs (lamFd _ _ _ _ _ .none pm (.ref c') ct) ⟨[], []⟩) _ _ _
        rw [hb]
        exact wpAny_pure (go [] (fun y hy => nomatch hy))
      · exact absurd rfl hb
    · rcases hb with ⟨hb, _⟩ | ⟨_, hb⟩
      · exact absurd hb hne
      · obtain ⟨_, its, rv, ob, hob, hcls, nn, hdat⟩ := inv.hok D _ hD
        obtain ⟨kk, e1, e2⟩ := hb (cloFrom X.env.cells scope.names []) D pm (.ref c') ct its rv.length.symm
        show wpAny _ _ (bindArgs (lamFd _ _ _ _ _ (.ref D) pm (.ref c') ct) ⟨[], []⟩) _ _ _
        rw [e1]
        apply wpAny_bind
        refine wpAny_seqItems hob hdat ?_
        rw [e2]
        exact wpAny_pure (go _ fun y hy => hxs _ (List.of_mem_zip hy).1)
  apply wpAny_call
  refine codeAny_mono run ?_
  intro res sh' got
  match res, got with
  | .error ex, got => exact ps' pins H s ex sh' inv got
  | .ok (.ret u), got => exact inv.after got
  | .ok .next, got => exact got.elim
  | .ok .brk, got => exact got.elim
  | .ok .cont, got => exact got.elim
end
/-- the n-th lambda computes m -/
structure LamOk (X : Cx) (T : Tbl) (k : Nat) (n : Nat) (m : Sl → Om → Out D) : Prop where
  ex : ∃ (params : Arguments) (body : Expr) (scope : Scope) (ds : List V) (xs : List Str), (∀ F H f, T.lm n F H f → LamAt (X.env.qual ++ "<lambda>") params body scope (cloFrom X.env.cells scope.names []) ds F H f) ∧ BlkOk X.N X.env.scope scope [] ∧ (∀ y ∈ scope.names, y.2 ≠ .cell) ∧ scope.isCoroutine = false ∧ scope.isGenerator = false ∧
    LamBind (X.env.qual ++ "<lambda>") params body scope ds xs ∧ (∀ x ∈ xs, scope.names.lookup x = some .local) ∧
    ∀ (E : XK) (f c' : Addr) (s : Shared) (H : Hp), Room k (X.A.deeper (LamX.lamEnv X scope s.heap.objs.size f c')) → Takes (Lx X s H E scope f c') (fun cls d _ H => E cls d H) → DE (Lx X s H E scope f c') T (fun cls d _ H => E cls d H) body m
section
variable {X : Cx} {T : Tbl} {W : WX} {x : Str} {p pos : Pos}
def tCallF (i : Nat) (T : Tbl) (W : WX) (n0 : Nat) (tbs : Nat → XK → TE) : TE := fun σ H Q => ∃ f n F, σ[i]? = some (some (.ref f)) ∧ T.lm n F H f ∧ n < n0 ∧ tbs n (WE W σ) σ H Q
def noO : Sl → Sl := List.map fun d => match d with
  | .o _ => .no
  | d => d
theorem Slots.noO {K : PySem.W.Frag} {F : Addr → Prop} {H : Hp} : ∀ {O : List Addr} {s : L2.St} {r : Sl}, Slots K F H O s r → Slots K F H [] s (noO r)
  | _, _, _, .nil => .nil
  | _, _, _, .no h => .no (Slots.noO h)
  | _, _, _, .p e h => .p e (Slots.noO h)
  | _, _, _, .o _ _ h => .no (Slots.noO h)
def eCallF (i : Nat) (ms : List (Sl → Om → Out D)) : Sl → Om → Out D := fun r w => match r[i]? with
  | some (.p (.ref a)) => (match w a with
    | some (.fn n) => (match ms[n]? with
      | some m => (m (noO r) w).at r
      | none => .stuck)
    | _ => .stuck)
  | _ => .stuck
theorem dx_callF {k : Nat} (i : Nat) {ms : List (Sl → Om → Out D)} (room : Room (k + 1) X.A) (tk : Takes X W) (h : ∀ n m, ms[n]? = some m → LamOk X T k n m) (hN : X.N[i]? = some x := by rfl) (hv : Vis X.env.scope x := by first | exact Or.inl rfl | exact Or.inr (Or.inl rfl) | exact Or.inr (Or.inr rfl)) (hd : (x == ("__debug__" : Str)) = false := by decide)
    (hcd : (x == ("__classdict__" : Str)) = false := by decide) : DE X T W (.Call (.Name x p) [] [] pos) (eCallF i ms) := by
  let tbs : Nat → XK → TE := fun n E σ H Q => ∀ (m : Sl → Om → Out D) (e : ms[n]? = some m) (f c' : Addr) (s0 : Shared) (H0 : Hp) (rm : Room k (X.A.deeper (LamX.lamEnv X (Classical.choose (Classical.choose_spec (Classical.choose_spec (h n m e).ex))) s0.heap.objs.size f c')))
    (t : Takes (Lx X s0 H0 E (Classical.choose (Classical.choose_spec (Classical.choose_spec (h n m e).ex))) f c') (fun cls d _ H => E cls d H)),
    Classical.choose ((Classical.choose_spec (Classical.choose_spec (Classical.choose_spec (Classical.choose_spec (Classical.choose_spec (h n m e).ex))))).2.2.2.2.2.2.2 E f c' s0 H0 rm t).run σ H Q
  refine ⟨tCallF i T W ms.length tbs, ⟨fun pins s σ H Q inv ⟨f, n, F, h1, h2, h3, h4⟩ => ?_⟩, fun G O w r s H Q hK hT R hs => ?_⟩
  · obtain ⟨m, hm⟩ : ∃ m, ms[n]? = some m := ⟨_, List.getElem?_eq_getElem h3⟩
    have spec := Classical.choose_spec (Classical.choose_spec (Classical.choose_spec (Classical.choose_spec (Classical.choose_spec (h n m hm).ex))))
    have h5 := h4 m hm
    obtain ⟨g1, g2, g3, g4, g5, g6, g7, g8⟩ := spec
    have la := g1 F H f h2
    apply wpAny_Call_Name_kw
    refine thn ((pv (pos := p) i hN hv hd hcd).run pins s σ H (fun v H1 => v = .ref f ∧ H1 = H) inv ⟨.ref f, h1, rfl, rfl⟩) ?_
    rintro u s1 ⟨v, H1, inv1, r1, rfl, rfl⟩
    cases r1
    obtain ⟨c', dV, q1, q2, q3, q4⟩ := id la
    obtain ⟨⟨pm, ct, ho⟩, _, _⟩ := inv1.hok f _ q3
    refine PySem.W.callWith_F0 ⟨_, _, _, _, ho⟩ ?_
    exact lam_call inv1 room g2 g3 g4 g5 la g6 g7 (passAt tk σ) (tb := tbs n (WE W σ)) (fun c' s0 H0 rm => ⟨fun pins2 s2 σ2 H2 Q2 inv2 k2 => (Classical.choose_spec (g8 (WE W σ) f c' s0 H0 rm (L2.takes_of rfl rfl rfl rfl)).run).1.run pins2 s2 σ2 H2 Q2 inv2 (k2 m hm f c' s0 H0 rm (L2.takes_of rfl rfl rfl rfl))⟩) h4
  · unfold eCallF at hs
    split at hs
    · rename_i a ea
      split at hs
      · rename_i n en
        split at hs
        · rename_i m em
          obtain ⟨v, e1, e2⟩ := R.get_p ea
          cases e2
          have lm := R.wok a _ en
          refine ⟨a, n, Fx G O w, e1, by rw [← hT]; exact lm, (List.getElem?_eq_some_iff.mp em).1, ?_⟩
          intro m' em' f c' s0 H0 rm t
          rw [em] at em'
          cases em'
          have spec := Classical.choose_spec (Classical.choose_spec (Classical.choose_spec (Classical.choose_spec (Classical.choose_spec (h n m em).ex))))
          obtain ⟨O1, n1, sub, sl⟩ := R.slots
          have R1 : Rel (Gin G.K G.T H w (Xs' G O)) [] w (noO r) s H := ⟨R.toWor.enter, [], List.nodup_nil, fun _ z => z, by rw [fx_in_eq]; exact sl.noO⟩
          refine (Classical.choose_spec (spec.2.2.2.2.2.2.2 (WE W s) f c' s0 H0 rm t).run).2 (Gin G.K G.T H w (Xs' G O)) [] w (noO r) s H Q hK hT R1 ?_
          rw [Out.sat_at] at hs
          refine hs.imp (fun d w' q v H' R2 t2 p2 => ?_) (fun e r' w' q cls od O' s' H' R' p' => ?_)
          · obtain ⟨W2, t3⟩ := R.toWor.leave R2.toWor
            have p3 : Rep G.K (Fx (Gin G.K G.T H w (Xs' G O)) [] w') H' v d := p2
            rw [fx_in_eq] at p3
            exact q v H' (R.of_wor W2 t3) t3 p3
          · obtain ⟨W2, t3⟩ := R.toWor.leave R'.toWor.bare
            have p3 : XRep G.K X.mg (Fx (Gin G.K G.T H w (Xs' G O)) [] w') H' e cls od := XRep.bare (G := Gin G.K G.T H w (Xs' G O)) (O := O') (by
              have p4 : XRep X.K X.mg (Fx (Gin G.K G.T H w (Xs' G O)) O' w') H' e cls od := p'
              rw [← hK] at p4
              exact p4)
            rw [fx_in_eq, hK] at p3
            exact q cls od O s H' (R.of_wor W2 t3) p3
        · exact hs.elim
      · exact hs.elim
    · exact hs.elim
end
end DL

set_option Elab.async false
set_option linter.all false
set_option maxRecDepth 100000
set_option maxHeartbeats 2000000
/-! DL23: sorted(.., reverse=..) of tuples of ints. -/
namespace DL
open PySem PySem.Spec L2
open PyProof.Rows hiding St

/-- the order of int tuples -/
def lexL : List Int → List Int → Bool
  | _, [] => false
  | [], _ :: _ => true
  | x :: xs, y :: ys => if x = y then lexL xs ys else decide (x < y)
theorem lexL_cons {x y : Int} {xs ys : List Int} : lexL (x :: xs) (y :: ys) = if x = y then lexL xs ys else decide (x < y) := by rw [lexL]
theorem lexL_asym : ∀ x y : List Int, lexL x y = true → lexL y x = false
  | [], [], h => by simp [lexL] at h
  | [], y :: ys, _ => rfl
  | x :: xs, [], h => by simp [lexL] at h
  | x :: xs, y :: ys, h => by
    unfold lexL at h ⊢
    by_cases e : x = y
    · subst e
      rw [if_pos rfl] at h ⊢
      exact lexL_asym xs ys h
    · rw [if_neg e] at h
      rw [if_neg (fun z => e z.symm)]
      have := of_decide_eq_true h
      exact decide_eq_false (by omega)
theorem lexL_tr : ∀ x y z : List Int, lexL y x = false → lexL z y = false → lexL z x = false
  | [], y, z, h1, h2 => by cases z <;> rfl
  | x :: xs, [], z, h1, h2 => by simp [lexL] at h1
  | x :: xs, y :: ys, [], h1, h2 => by simp [lexL] at h2
  | x :: xs, y :: ys, z :: zs, h1, h2 => by
    unfold lexL at h1 h2 ⊢
    by_cases e1 : y = x
    · subst e1
      rw [if_pos rfl] at h1
      by_cases e2 : z = y
      · subst e2
        rw [if_pos rfl] at h2 ⊢
        exact lexL_tr xs ys zs h1 h2
      · rw [if_neg e2] at h2 ⊢
        exact h2
    · rw [if_neg e1] at h1
      have a := of_decide_eq_false h1
      by_cases e2 : z = y
      · subst e2
        rw [if_neg e1]
        exact decide_eq_false a
      · rw [if_neg e2] at h2
        have b := of_decide_eq_false h2
        rw [if_neg (show ¬ z = x by omega)]
        exact decide_eq_false (by omega)
theorem lexL_anti : ∀ x y : List Int, lexL x y = false → lexL y x = false → x = y
  | [], [], _, _ => rfl
  | [], y :: ys, h, _ => by simp [lexL] at h
  | x :: xs, [], _, h => by simp [lexL] at h
  | x :: xs, y :: ys, h1, h2 => by
    unfold lexL at h1 h2
    by_cases e : x = y
    · subst e
      rw [if_pos rfl] at h1 h2
      rw [lexL_anti xs ys h1 h2]
    · rw [if_neg e] at h1
      rw [if_neg (fun z => e z.symm)] at h2
      have a := of_decide_eq_false h1
      have b := of_decide_eq_false h2
      omega
theorem swo_lexL (k : Value → List Int) : SrtO.Swo fun v u => lexL (k v) (k u) := ⟨fun x y h => lexL_asym _ _ h, fun x y z h1 h2 => lexL_tr _ _ _ h1 h2⟩
/-- a tuple of ints -/
def IsTupI (h : Heap) (v : Value) (ns : List Int) : Prop := ∃ a o its n, v = .ref a ∧ h.get? a = some o ∧ o.cls = .type "tuple" ∧ o.data = .seq its n ∧ IntsAre its.toList ns
theorem ints_inj : ∀ {vs : List Value} {ns ms : List Int}, IntsAre vs ns → IntsAre vs ms → ns = ms
  | _, _, _, .nil, h => by cases h; rfl
  | _, _, _, .cons n t h1, h => by
    cases h with
    | cons _ _ h2 => rw [ints_inj h1 h2]
theorem IsTupI.inj {h : Heap} {v : Value} {ns ms : List Int} (a : IsTupI h v ns) (b : IsTupI h v ms) : ns = ms := by
  obtain ⟨p, o, its, n, rfl, h1, _, h3, h4⟩ := a
  obtain ⟨p', o', its', n', e, h1', _, h3', h4'⟩ := b
  cases e
  rw [h1] at h1'
  cases h1'
  rw [h3] at h3'
  cases h3'
  exact ints_inj h4 h4'
theorem IsTupI.keeps {h h' : Heap} {v : Value} {ns : List Int} (p : IsTupI h v ns) (k : ∀ b o, h.get? b = some o → o.cls = .type "tuple" → h'.get? b = some o) : IsTupI h' v ns := by
  obtain ⟨a, o, its, n, e, h1, h2, h3, h4⟩ := p
  exact ⟨a, o, its, n, e, k _ _ h1 h2, h2, h3, h4⟩
section
variable {prog : Program} {w : World} {A : Around} {E : Value → Shared → Prop} {s : Shared}
theorem lex_run {fin : Bool} {r0 : Bool} : ∀ {xs ys : List Value} {ns ms : List Int} (i : Nat), IntsAre xs ns → IntsAre ys ms → fin = decide (ns.length < ms.length) → r0 = lexL ns ms → PySem.W.KatLex prog w A true fin (fun r s' => s' = s ∧ r = r0) (xs.zip ys) i s
  | _, _, _, _, i, .nil, .nil, hf, hr => PySem.W.kat_nil ⟨rfl, by rw [hf, hr]; rfl⟩
  | _, _, _, _, i, .nil, .cons _ _ _, hf, hr => PySem.W.kat_nil ⟨rfl, by rw [hf, hr]; exact decide_eq_true (Nat.zero_lt_succ _)⟩
  | _, _, _, _, i, .cons _ _ _, .nil, hf, hr => PySem.W.kat_nil ⟨rfl, by rw [hf, hr]; exact decide_eq_false (Nat.not_lt_zero _)⟩
  | _, _, _, _, i, .cons (ns := ns) n t h1, .cons (ns := ms) m u h2, hf, hr => by
    refine PySem.W.kat_cons (SeqAt.EqAt.int_int n t m u prog w _ _ ?_)
    refine PySem.W.kat_go (fun e => ?_) (fun e => ?_)
    · have en : n = m := by simpa using e
      refine PySem.W.kat_yes (lex_run (i + 1) h1 h2 ?_ ?_)
      · rw [hf, List.length_cons, List.length_cons]
        exact decide_eq_decide.mpr (by omega)
      · rw [hr, lexL_cons]
        exact if_pos en
    · have en : ¬ n = m := by simpa using e
      refine PySem.W.kat_no ?_
      have fin : (fun (r : Bool) (s' : Shared) => s' = s ∧ r = r0) (decide (n < m)) s := ⟨rfl, by rw [hr, lexL_cons, if_neg en]⟩
      exact TS.oneLt_ints _ fin
theorem tup_cmp {vs : List Value} {k : Value → List Int} (hp : ∀ v ∈ vs, IsTupI s.heap v (k v)) : SrtO.Cmp prog w A s (tuples' true) (fun p => p.1 ∈ vs) (SrtO.lt2 fun v u => lexL (k v) (k u)) := by
  intro p q hm hm'
  show wpAny (model prog w) A (keyLt' (tuples' true) p.1 q.1) (fun r s' => s' = s ∧ r = lexL (k p.1) (k q.1)) (fun _ _ => False) s
  have h1 := hp _ hm
  have h2 := hp _ hm'
  generalize k p.1 = ns at h1 ⊢
  generalize k q.1 = ms at h2 ⊢
  obtain ⟨a, o, its, n, e, ho, hc, hd, hi⟩ := h1
  obtain ⟨a', o', its', n', e', ho', hc', hd', hi'⟩ := h2
  rw [e, e']
  refine PySem.W.kat_lt ho hd ho' hd' (lex_run 0 hi hi' ?_ rfl)
  have len : ∀ {vs : List Value} {ns : List Int}, IntsAre vs ns → vs.length = ns.length := fun {vs ns} h => by
    induction h with
    | nil => rfl
    | cons n t _ ih => rw [List.length_cons, List.length_cons, ih]
  rw [← len hi, ← len hi', Array.length_toList, Array.length_toList]
theorem tup_firsts {h : Heap} : ∀ {vs : List Value}, (∀ v ∈ vs, ∃ n ns, IsTupI h v (n :: ns)) → ∃ fs : List Value, PySem.W.KatTups h vs fs ∧ fs.length = vs.length ∧ ∀ f ∈ fs, ∃ x t, f = Value.int x t
  | [], _ => ⟨[], PySem.W.KatTups.nil, rfl, fun _ hm => nomatch hm⟩
  | v :: vs, hp => by
    obtain ⟨fs, h1, h2, h3⟩ := tup_firsts (vs := vs) fun v' hm => hp v' (List.mem_cons_of_mem _ hm)
    obtain ⟨x, ns, a, o, its, n, e, ho, hc, hd, hi⟩ := hp v (List.mem_cons_self ..)
    obtain ⟨l⟩ := its
    subst e
    cases hi with
    | @cons _ t us _ hr =>
      refine ⟨.int x t :: fs, PySem.W.KatTups.cons ho hc hd rfl h1, by rw [List.length_cons, List.length_cons, h2], fun f hm => ?_⟩
      rcases List.mem_cons.mp hm with rfl | hm
      · exact ⟨x, t, rfl⟩
      · exact h3 f hm
theorem tups_sortable {a : Addr} {vs : List Value} {k : Value → List Int} (h0 : 0 < vs.length) (hp : ∀ v ∈ vs, IsTupI s.heap v (k v)) (hne : ∀ v ∈ vs, k v ≠ []) (ha : ∀ o, s.heap.get? a = some o → o.cls ≠ .type "tuple") : SrtO.SortableO prog w A s a vs fun v u => lexL (k v) (k u) := by
  intro h' keep
  have hp' : ∀ v ∈ vs, IsTupI h' v (k v) := fun v hm => (hp v hm).keeps fun b o e c => keep b o (fun z => by subst z; exact ha o e c) e
  obtain ⟨fs, h1, h2, h3⟩ := tup_firsts (h := h') (vs := vs) fun v hm => by
    have := hp' v hm
    cases q : k v with
    | nil => exact absurd q (hne v hm)
    | cons n ns =>
      rw [q] at this
      exact ⟨n, ns, this⟩
  refine ⟨tuples' true, fun Q E hq => ?_, tup_cmp hp'⟩
  refine PySem.W.kat_kind (T := .type "int") h1 (by omega) (fun f hm => ?_) (by rfl) ?_
  · obtain ⟨x, t, rfl⟩ := h3 f hm
    exact PySem.W.Looks.now
  · have e : (Value.type "int" != Value.type "tuple") = true := by first | decide +kernel | rfl | decide
    rw [e]
    exact hq
end
/-- a permutation lifted over a map -/
theorem perm_lift {α β : Type} {f : α → β} {out m : List β} (h : out.Perm m) : ∀ L : List α, L.map f = m → ∃ L' : List α, L'.Perm L ∧ L'.map f = out := by
  induction h with
  | nil =>
    intro L e
    exact ⟨L, .refl _, e⟩
  | cons x p ih =>
    intro L e
    match L, e with
    | a :: L, e =>
      rw [List.map_cons] at e
      injection e with e1 e2
      obtain ⟨L', h1, h2⟩ := ih L e2
      exact ⟨a :: L', h1.cons a, by rw [List.map_cons, h2, e1]⟩
  | swap x y l =>
    intro L e
    match L, e with
    | a :: b :: L, e =>
      rw [List.map_cons, List.map_cons] at e
      injection e with e1 e2
      injection e2 with e2 e3
      exact ⟨b :: a :: L, .swap _ _ _, by rw [List.map_cons, List.map_cons, e1, e2, e3]⟩
  | trans p q ih1 ih2 =>
    intro L e
    obtain ⟨L1, h1, h2⟩ := ih2 L e
    obtain ⟨L2, h3, h4⟩ := ih1 L1 h2
    exact ⟨L2, h3.trans h1, h4⟩
/-- the rows at xs, by place -/
inductive RowsAt (K : PySem.W.Frag) (H : Hp) : List V → List (List Int) → Prop
  | nil : RowsAt K H [] []
  | cons {a : Addr} {ns : List Int} {xs : List V} {nss : List (List Int)} : SqT K H a (ns.map V.int) → RowsAt K H xs nss → RowsAt K H (.ref a :: xs) (ns :: nss)
def DescB (b : Bool) (nss : List (List Int)) : Prop := if b = true then nss.Pairwise (fun x y => lexL x y = false) else nss.Pairwise (fun x y => lexL y x = false)
def rSortRows (K : PySem.W.Frag) (b : Bool) : List V → List V → Hp → VK → Prop := fun vs zs H Q => ∃ (a : Addr) (xs : List V) (nss : List (List Int)), vs = [.ref a] ∧ zs = [.bl b] ∧ SqL K H a xs ∧ RowsAt K H xs nss ∧ (∀ ns ∈ nss, ns ≠ []) ∧
  ∀ (ps : List (V × List Int)) (p : Addr), ps.Perm (xs.zip nss) → DescB b (ps.map (·.2)) → H p = none → Q (.ref p) (upd H p (.lst (ps.map (·.1))))
section
variable {X : Cx} {pins : List (Addr × Obj)} {σ : L2.St} {H : Hp} {s : Shared}
theorem rows_at (inv : Inv X pins σ H s) : ∀ {xs : List V} {nss : List (List Int)} {its : List Value}, RowsAt X.K H xs nss → Vals xs its → ∃ tr : List (Value × V × List Int), tr.map (·.1) = its ∧ tr.map (fun t => (t.2.1, t.2.2)) = xs.zip nss ∧ ∀ t ∈ tr, RelV t.2.1 t.1 ∧ IsTupI s.heap t.1 t.2.2
  | _, _, _, .nil, .nil => ⟨[], rfl, rfl, fun t h => nomatch h⟩
  | _, _, _, .cons (a := a) (ns := ns) h r, .cons (b := u) e v => by
    obtain ⟨tr, h1, h2, h3⟩ := rows_at inv r v
    have eu : u = Value.ref a := e
    subst eu
    obtain ⟨its, rv, ⟨o, ho, hc, n, hd⟩, hz⟩ := inv.tuple h
    refine ⟨(.ref a, .ref a, ns) :: tr, by rw [List.map_cons, h1], by rw [List.map_cons, h2]; rfl, fun t m => ?_⟩
    rcases List.mem_cons.mp m with rfl | m
    · exact ⟨rfl, a, o, its.toArray, n, rfl, ho, hc, hd, rv.ints⟩
    · exact h3 t m
theorem cr_sortRows {b : Bool} : CallRK X (.builtin "sorted") [Str.ofString "reverse"] (rSortRows X.K b) := by
  intro pins s σ H vs zs us ws Q inv r rz h
  obtain ⟨a, xs, nss, rfl, rfl, hs, hr, hne, q⟩ := h
  obtain rfl := Vals.ref1 r
  obtain ⟨w1, rfl, e1⟩ := vals1 rz
  obtain rfl : w1 = Value.bool b := e1
  obtain ⟨its, rv, hl, hz⟩ := inv.list hs
  obtain ⟨tr, t1, t2, t3⟩ := rows_at inv hr rv
  -- each value's own ints
  let k : Value → List Int := fun v => match tr.find? (fun t => decide (t.1 = v)) with
    | some t => t.2.2
    | none => []
  have kt : ∀ t ∈ tr, k t.1 = t.2.2 := fun t m => by
    show (match tr.find? (fun u => decide (u.1 = t.1)) with
      | some t => t.2.2
      | none => []) = t.2.2
    cases e : tr.find? (fun u => decide (u.1 = t.1)) with
    | none =>
      have := List.find?_eq_none.mp e t m
      simp at this
    | some u =>
      have um := List.mem_of_find?_eq_some e
      have ue : u.1 = t.1 := by simpa using List.find?_some e
      have := (t3 u um).2
      rw [ue] at this
      exact this.inj (t3 t m).2
  have hp : ∀ v ∈ its, IsTupI s.heap v (k v) := fun v m => by
    rw [← t1] at m
    obtain ⟨t, tm, rfl⟩ := List.mem_map.mp m
    rw [kt t tm]
    exact (t3 t tm).2
  have hk : ∀ v ∈ its, k v ≠ [] := fun v m => by
    rw [← t1] at m
    obtain ⟨t, tm, rfl⟩ := List.mem_map.mp m
    rw [kt t tm]
    have : (t.2.1, t.2.2) ∈ xs.zip nss := by
      rw [← t2]
      exact List.mem_map.mpr ⟨t, tm, rfl⟩
    exact hne _ (List.of_mem_zip this).2
  refine SrtR.sorted_ordK (fun _ => rfl) (PyProof.Rows.args_sorted_rev _ _) (fun _ => PyProof.Rows.args_list_sort_rev _ _) (swo_lexL k) hl.isList (by rw [← rv.length]; exact hz) (fun h2 h₁ a' ha' kk => ?_) fun out h1 h2 => ?_
  · refine tups_sortable (s := { s with heap := h₁ }) (by omega) (fun v hm => (hp v hm).keeps fun b o e _ => (kk b o e).2) hk fun o e => ?_
    have e' := e.symm.trans ha'
    cases e'
    intro c
    exact absurd (Value.type.inj c) (by decide)
  · have pm : (if b = true then out.reverse else out).Perm its := by
      have := h2.perm
      cases b with
      | true => exact (List.reverse_perm _).trans (this.trans (List.reverse_perm _))
      | false => exact this
    obtain ⟨tr', p1, p2⟩ := perm_lift pm tr t1
    have mem' : ∀ t ∈ tr', t ∈ tr := fun t m => p1.mem_iff.mp m
    obtain ⟨ep, he'⟩ := PyProof.Rows.sortedAll_at s.heap its (if b = true then out.toArray.reverse else out.toArray)
    have eo : (if b = true then out.toArray.reverse else out.toArray).toList = (if b = true then out.reverse else out) := by
      cases b with
      | true => show (out.toArray.reverse).toList = _; rw [Array.toList_reverse]; rfl
      | false => rfl
    have e0 : ((if b = true then out.toArray.reverse else out.toArray).toList).toArray = (if b = true then out.toArray.reverse else out.toArray) := by rw [Array.toArray_toList]
    have vals : Vals (tr'.map fun t => t.2.1) (if b = true then out.reverse else out) := by
      rw [← p2]
      clear p2 p1 pm
      induction tr' with
      | nil => exact .nil
      | cons t l ih => exact .cons (t3 t (mem' t (List.mem_cons_self ..))).1 (ih fun u m => mem' u (List.mem_cons_of_mem _ m))
    have hlen : (tr'.map fun t => t.2.1).length ≤ sizeLine := by
      rw [List.length_map, p1.length_eq, ← List.length_map (f := fun t : Value × V × List Int => t.1), t1, ← rv.length]
      exact hz
    have ord : DescB b (tr'.map fun t => t.2.2) := by
      have e2 : tr'.map (fun t => t.2.2) = (if b = true then out.reverse else out).map k := by
        rw [← p2, List.map_map]
        exact List.map_congr_left fun t m => (kt t (mem' t m)).symm
      rw [e2]
      unfold DescB
      cases b with
      | true =>
        rw [if_pos rfl, if_pos rfl, List.pairwise_map, List.pairwise_reverse]
        exact h1
      | false =>
        rw [if_neg Bool.false_ne_true, if_neg Bool.false_ne_true, List.pairwise_map]
        exact h1
    refine ⟨.ref _, upd H (s.heap.objs.size + 1) (.lst (tr'.map fun t => t.2.1)), inv.laid (t' := s.toks) (fun _ _ => PyProof.Rows.sortedAll_old) (Nat.le_succ _) ⟨hlen, _, ep, vals, by rw [← eo, e0]; exact he'⟩, rfl, ?_⟩
    have := q (tr'.map fun t => (t.2.1, t.2.2)) (s.heap.objs.size + 1) (by rw [← t2]; exact p1.map _) (by rw [List.map_map]; exact ord) (inv.hok.fresh (Nat.le_succ _))
    rw [List.map_map] at this
    exact this
end
end DL

set_option Elab.async false
set_option linter.all false
set_option maxRecDepth 100000
set_option maxHeartbeats 2000000
/-! DL24: sorted at D's level. -/
namespace DL
open PySem PySem.Spec L2
open PyProof.Rows hiding St

def D.row? : D → Option (List Int)
  | .tup l => l.mapM fun d => match d with
    | .int i => some i
    | _ => none
  | _ => none
def rowD (ns : List Int) : D := .tup (ns.map .int)
theorem mapM_ints : ∀ {l : List D} {ns : List Int}, (l.mapM fun d => match d with
    | .int i => some i
    | _ => none) = some ns → l = ns.map .int
  | [], ns, h => by
    rw [List.mapM_nil] at h
    cases h
    rfl
  | d :: l, ns, h => by
    rw [List.mapM_cons] at h
    cases d <;> (try (cases h; done))
    rename_i i
    cases e : (l.mapM fun d => match d with
      | D.int i => some i
      | _ => none) with
    | none => rw [e] at h; cases h
    | some ms =>
      rw [e] at h
      cases h
      rw [mapM_ints e]
      rfl
theorem row_eq {d : D} {ns : List Int} (h : D.row? d = some ns) : d = rowD ns := by
  cases d <;> (try (cases h; done))
  unfold rowD
  rw [mapM_ints h]
theorem ints_row : ∀ ns : List Int, ((ns.map D.int).mapM fun d => match d with
    | .int i => some i
    | _ => none) = some ns
  | [] => rfl
  | n :: ns => by
    rw [List.map_cons, List.mapM_cons, ints_row ns]
    rfl
@[simp] theorem row_rowD (ns : List Int) : D.row? (rowD ns) = some ns := ints_row ns
theorem mapM_rows : ∀ {l : List D} {nss : List (List Int)}, l.mapM D.row? = some nss → l = nss.map rowD
  | [], nss, h => by
    rw [List.mapM_nil] at h
    cases h
    rfl
  | d :: l, nss, h => by
    rw [List.mapM_cons] at h
    cases e1 : D.row? d with
    | none => rw [e1] at h; cases h
    | some ns =>
      cases e2 : l.mapM D.row? with
      | none => rw [e1, e2] at h; cases h
      | some ms =>
        rw [e1, e2] at h
        cases h
        rw [row_eq e1, mapM_rows e2]
        rfl
theorem rows_row : ∀ nss : List (List Int), (nss.map rowD).mapM D.row? = some nss
  | [] => rfl
  | n :: ns => by
    rw [List.map_cons, List.mapM_cons, rows_row ns, row_rowD]
    rfl
def sortRows (b : Bool) (nss : List (List Int)) : List (List Int) := nss.mergeSort fun x y => if b = true then !lexL x y else !lexL y x
theorem sort_desc (b : Bool) (nss : List (List Int)) : DescB b (sortRows b nss) := by
  have h := List.pairwise_mergeSort (le := fun x y => if b = true then !lexL x y else !lexL y x) (fun x y z h1 h2 => ?_) (fun x y => ?_) nss
  · unfold DescB
    cases b with
    | true => exact h.imp fun q => by simpa using q
    | false => exact h.imp fun q => by simpa using q
  · cases b with
    | true =>
      have a : lexL x y = false := by simpa using h1
      have c : lexL y z = false := by simpa using h2
      simpa using lexL_tr z y x c a
    | false =>
      have a : lexL y x = false := by simpa using h1
      have c : lexL z y = false := by simpa using h2
      simpa using lexL_tr x y z a c
  · have key : lexL x y = true → lexL y x = false := lexL_asym x y
    cases b with
    | true =>
      cases e : lexL x y with
      | false => simp
      | true => simp [key e]
    | false =>
      cases e : lexL x y with
      | false => simp
      | true => simp [key e]
theorem desc_eq {b : Bool} {xs ys : List (List Int)} (h1 : DescB b xs) (h2 : DescB b ys) (p : xs.Perm ys) : xs = ys := by
  unfold DescB at h1 h2
  cases b with
  | true =>
    rw [if_pos rfl] at h1 h2
    exact List.Perm.eq_of_pairwise (fun x y _ _ a c => lexL_anti x y a c) h1 h2 p
  | false =>
    rw [if_neg Bool.false_ne_true] at h1 h2
    exact List.Perm.eq_of_pairwise (fun x y _ _ a c => lexL_anti x y c a) h1 h2 p
section
variable {X : Cx} {T : Tbl} {W : WX} {e : Expr} {es : List Expr} {fs : Sl → Om → Out (List D)} {p kp pos : Pos}
theorem reps_rows {K : PySem.W.Frag} {F : Addr → Prop} {H : Hp} : ∀ {nss : List (List Int)} {xs : List V}, Reps K F H xs (nss.map rowD) → RowsAt K H xs nss
  | [], _, h => by cases h; exact .nil
  | ns :: nss, _, h => by
    cases h with
    | cons h1 h2 =>
      have h1' : Rep K F H _ (.tup (ns.map .int)) := h1
      cases h1' with
      | tup q1 q2 =>
        rw [Reps.ints q2] at q1
        exact .cons q1.sq (reps_rows h2)
theorem reps_zip {K : PySem.W.Frag} {F : Addr → Prop} {H : Hp} : ∀ {nss : List (List Int)} {xs : List V}, Reps K F H xs (nss.map rowD) → ∀ q ∈ xs.zip nss, Rep K F H q.1 (rowD q.2)
  | [], _, h, q, m => by rw [List.zip_nil_right] at m; exact nomatch m
  | ns :: nss, _, h, q, m => by
    cases h with
    | cons h1 h2 =>
      rw [List.zip_cons_cons] at m
      rcases List.mem_cons.mp m with rfl | m
      · exact h1
      · exact reps_zip h2 q m
theorem reps_of {K : PySem.W.Frag} {F : Addr → Prop} {H : Hp} : ∀ {ps : List (V × List Int)}, (∀ q ∈ ps, Rep K F H q.1 (rowD q.2)) → Reps K F H (ps.map (·.1)) ((ps.map (·.2)).map rowD)
  | [], _ => .nil
  | q :: ps, h => .cons (h q (List.mem_cons_self ..)) (reps_of fun r m => h r (List.mem_cons_of_mem _ m))
/-- the items of a list -/
def D.ls? : D → Option (List D)
  | .lst l => some l
  | .fl l => some l
  | _ => none
theorem BRep.ls {G : Gc} {O : List Addr} {w : Om} {H : Hp} {v : V} {d : D} {l : List D} (h : BRep G O w H v d) (e : D.ls? d = some l) : ∃ a xs, v = .ref a ∧ SqL G.K H a xs ∧ Reps G.K (Fx G O w) H xs l := by
  cases d <;> (try (cases e; done))
  · cases e
    obtain ⟨a, xs, h1, h2, h3⟩ := h.list
    exact ⟨a, xs, h1, SqL.of h2, h3⟩
  · cases e
    exact h.flist
/-- sorted(rows, reverse=b): a new list, nobody else's -/
def seSort (b : Bool) (fs : Sl → Om → Out (List D)) : Sl → Om → Out Slot := fun r w => (fs r w).bind fun ds w => match ds with
  | [d] => (match (D.ls? d).bind fun l => l.mapM D.row? with
    | some nss => if [] ∈ nss then .stuck else .ok (.o ((sortRows b nss).map rowD)) w
    | none => .stuck)
  | _ => .stuck
theorem se_sort {b : Bool} {j : Nat} {kp2 : Pos} (hg : Gl X "sorted") (hm : X.mg "sorted" = none) (ha : BA X T W [e] fs)
    (he : backTo pos (starEach [e] X.env) = (false, eval e X.env) :: backTo pos (starEach [] X.env) := by rfl) (hpl : (backTo pos (starEach [e] X.env)).any (·.1) = false := by rfl)
    (hall : (backToKw pos (keywordEach [⟨some "reverse", .Constant (.bool b) j kp, kp2⟩] X.env)).all (·.1.isSome) = true := by rfl) (hnone : (backToKw pos (keywordEach [⟨some "reverse", .Constant (.bool b) j kp, kp2⟩] X.env)).any (·.1.isNone) = false := by rfl)
    (hks : (backToKw pos (keywordEach [⟨some "reverse", .Constant (.bool b) j kp, kp2⟩] X.env)).filterMap (·.1) = [Str.ofString "reverse"] := by rfl) : SE X T W (.Call (.Name "sorted" p) [e] [⟨some "reverse", .Constant (.bool b) j kp, kp2⟩] pos) (seSort b fs) := by
  obtain ⟨ta, pa, ha⟩ := ha.run
  refine ⟨_, pe_callBK (cr_sortRows (b := b)) hg hm PyProof.Rows.boot_sorted pa (pk_cons pe_bl pk_nil) (he := he) (hpl := hpl) (hall := hall) (hnone := hnone) (hks := hks), fun G O w r s H Q hK hT R hs => ?_⟩
  unfold seSort at hs
  rw [Out.sat_bind] at hs
  refine ha G O w r s H _ hK hT R (hs.mono fun ds w1 q vs H1 R1 t1 p1 => ?_)
  split at q
  · rename_i d
    obtain ⟨v, rfl, h⟩ := breps1 p1
    split at q
    · rename_i nss e1
      obtain ⟨l, e2, e3⟩ := Option.bind_eq_some_iff.mp e1
      split at q
      · exact q.elim
      · rename_i hne
        obtain ⟨a, xs, rfl, h1, h2⟩ := h.ls e2
        rw [mapM_rows e3] at h2
        refine ⟨a, xs, nss, rfl, rfl, by rw [← hK]; exact h1, by rw [← hK]; exact reps_rows h2, fun ns m z => hne (z ▸ m), fun ps p pm ord hp => ?_⟩
        have eq : ps.map (·.2) = sortRows b nss := by
          refine desc_eq ord (sort_desc b nss) ?_
          have e4 : (xs.zip nss).map (·.2) = nss := List.map_snd_zip (by rw [h2.length, List.length_map]; exact Nat.le_refl _)
          have := pm.map (·.2)
          rw [e4] at this
          exact this.trans (List.mergeSort_perm ..).symm
        have hr : Reps G.K (Fx G O w1) H1 (ps.map (·.1)) ((sortRows b nss).map rowD) := by
          rw [← eq]
          exact reps_of fun q m => reps_zip h2 q (pm.mem_iff.mp m)
        obtain ⟨R2, t2⟩ := R1.own (xs := ps.map (·.1)) hp
        exact q _ (p :: O) _ R2 (fun a m => List.mem_cons_of_mem _ m) (own_new t1 hp) (t1.trans (tre_ext (new_ext hp))) ⟨p, _, rfl, List.mem_cons_self .., fun z => R1.osome p z hp, upd_same, Reps.tr t2 _ _ hr⟩
    · exact q.elim
  · exact q.elim
end
end DL

set_option Elab.async false
set_option linter.all false
set_option maxRecDepth 100000
set_option maxHeartbeats 2000000
/-! DL25: two attributes at once; defs whose code object is known. -/
namespace DL
open PySem PySem.Spec L2
open PyProof.Rows hiding St

section
variable {X : Cx} {T : Tbl} {W : WX} {o o' e : Expr} {n1 n2 : Str} {p1 p2 pos : Pos} {fo fe : Sl → Om → Out D} {C : Addr}
def gAtt (K : PySem.W.Frag) (to : TE) (f : Str) : TG := fun v σ H Q => to σ H fun x H1 => ∃ a C dx fs, x = .ref a ∧ H1 a = some (.ins C dx fs) ∧ Cls K C ∧ NoAttr K C f ∧ fs.length < 1000 ∧ Q σ (upd H1 a (.ins C dx (putF f v fs)))
def AttA (X : Cx) (o : Expr) (f : Str) (p : Pos) : Prop := ∀ v, assign (.Attribute o f p) X.env v = (do
    let ov ← holding [v] (eval o X.env)
    standAt p.atName
    holding [v, ov] (setAttr ov f v)
    release [v, ov] [])
theorem pg_att {f : Str} {to : TE} (ho : PE X o to) (ha : AttA X o f p1) : PG X (.Attribute o f p1) (gAtt X.K to f) := by
  constructor
  intro pins s σ H v u Q inv r run
  rw [ha]
  apply wpAny_bind
  apply wpAny_holding
  refine thn (ho.run pins s σ H _ inv run) ?_
  rintro ov s1 ⟨x, H1, inv1, rx, a, C, dx, fs, rfl, at_, c, n, l, q⟩
  cases rx
  apply wpAny_bind
  apply wpAny_standAt
  apply wpAny_bind
  apply wpAny_holding
  exact setattr_ok inv1 at_ c n l r fun s2 inv2 => wpAny_release ⟨σ, _, inv2, q⟩
/-- o.n1, o.n2 = e -/
def sAtt2 (C : Addr) (n1 n2 : Str) (fe fo : Sl → Om → Out D) : Sl → Om → Out Res := fun r w => (fe r w).bind fun d w => match d with
  | .tup [d1, d2] => (fo r w).bind fun o w => (match wIns w o with
    | some (a, C', dx, fl) => if C' = C ∧ fl.length < 1000 then (let w := w.set a (.ins C dx (putD n1 d1 fl))
      (fo r w).bind fun o w => match wIns w o with
      | some (a, C', dx, fl) => if C' = C ∧ fl.length < 1000 then .ok (.nx r) (w.set a (.ins C dx (putD n2 d2 fl))) else .stuck
      | none => .stuck) else .stuck
    | none => .stuck)
  | _ => .stuck
theorem ds_att2 {kt : Nat} {pt : Pos} (hc : X.calm = true) (he : DE X T W e fe) (ho : DE X T W o fo) (ho' : DE X T W o' fo) (c : Cls X.K C) (a1 : NoAttr X.K C n1) (a2 : NoAttr X.K C n2) (h1 : AttA X o n1 p1 := by intro _; rfl) (h2 : AttA X o' n2 p2 := by intro _; rfl)
    (hs : swapsWithSole [.Tuple [.Attribute o n1 p1, .Attribute o' n2 p2] kt pt] e pos.line X.env = pure false := by rfl)
    (hw : swappedStores [.Tuple [.Attribute o n1 p1, .Attribute o' n2 p2] kt pt] e X.env = pure none := by rfl)
    (hh : (assignEach [.Tuple [.Attribute o n1 p1, .Attribute o' n2 p2] kt pt] X.env).map (·.2) = [assign (.Tuple [.Attribute o n1 p1, .Attribute o' n2 p2] kt pt) X.env] := by rfl)
    (hn : (assignEach [.Attribute o n1 p1, .Attribute o' n2 p2] X.env).length = 2 := by rfl) (hst : (assignEach [.Attribute o n1 p1, .Attribute o' n2 p2] X.env).findIdx? (·.1) = none := by rfl)
    (e1 : (assignEach [.Attribute o n1 p1, .Attribute o' n2 p2] X.env).map (·.2) = assign (.Attribute o n1 p1) X.env :: (assignEach [.Attribute o' n2 p2] X.env).map (·.2) := by rfl)
    (e2 : (assignEach [.Attribute o' n2 p2] X.env).map (·.2) = assign (.Attribute o' n2 p2) X.env :: (assignEach [] X.env).map (·.2) := by rfl) :
    DS X T W (.Assign [.Tuple [.Attribute o n1 p1, .Attribute o' n2 p2] kt pt] e pos) (sAtt2 C n1 n2 fe fo) := by
  obtain ⟨te, pe, he⟩ := he.run
  obtain ⟨to, po, ho⟩ := ho.run
  obtain ⟨to', po', ho'⟩ := ho'.run
  refine ⟨_, ps_asg pe (pg_tup hc (pgs_cons (pg_att po h1) (pgs_cons (pg_att po' h2) pgs_nil e2) e1) hn hst) hs hw hh, fun G O w r s H D hK hT R hs => ?_⟩
  unfold sAtt2 at hs
  rw [Out.sat_bind] at hs
  refine he G O w r s H _ hK hT R (hs.mono fun d w1 q v H1 R1 t1 pv => ?_)
  split at q
  · rename_i d1 d2
    cases pv with
    | tup k1 k2 =>
      obtain ⟨v1, v2, rfl, r1, r2⟩ := reps2 k2
      refine ⟨_, _, rfl, by rw [← hK]; exact k1.sq, rfl, v1, [v2], rfl, ?_⟩
      rw [Out.sat_bind] at q
      refine ho G O w1 r s H1 _ hK hT R1 (q.mono fun od w2 q ov H2 R2 t2 po2 => ?_)
      split at q
      · rename_i a C' dx fl el
        obtain ⟨rfl, ew⟩ := wIns_eq el
        split at q
        · rename_i hcl
          obtain ⟨rfl, hl⟩ := hcl
          obtain ⟨vs0, hv0, hf0⟩ := R2.wok a _ ew
          cases po2
          obtain ⟨R3, t3⟩ := R2.setF (fl' := putD n1 d1 fl) ew (hf0.put (nm := n1) (Rep.tr t2.tr _ _ r1))
          refine ⟨a, C', dx, vs0, rfl, hv0, c, a1, by rw [hf0.len]; exact hl, v2, [], rfl, ?_⟩
          have q' : ((fo r (w2.set a (.ins C' dx (putD n1 d1 fl)))).bind fun o w => match wIns w o with
            | some (a, C'', dx, fl) => if C'' = C' ∧ fl.length < 1000 then (Out.ok (Res.nx r) (w.set a (.ins C' dx (putD n2 d2 fl))) : Out Res) else .stuck
            | none => .stuck).Sat (OkS G O w H D) (OkX X G W) := q
          rw [Out.sat_bind] at q'
          refine ho' G O _ r s _ _ hK hT R3 (q'.mono fun od w4 q ov H4 R4 t4 po4 => ?_)
          split at q
          · rename_i a' C'' dx' fl' el'
            obtain ⟨rfl, ew'⟩ := wIns_eq el'
            split at q
            · rename_i hcl'
              obtain ⟨rfl, hl'⟩ := hcl'
              obtain ⟨vs4, hv4, hf4⟩ := R4.wok a' _ ew'
              cases po4
              obtain ⟨R5, t5⟩ := R4.setF (fl' := putD n2 d2 fl') ew' (hf4.put (nm := n2) (Rep.tr ((t2.trans t3).trans t4).tr _ _ r2))
              exact ⟨a', C'', dx', vs4, rfl, hv4, c, a2, by rw [hf4.len]; exact hl', rfl, q O s _ R5 ((((t1.trans t2).trans t3).trans t4).trans t5).tr⟩
            · exact q.elim
          · exact q.elim
        · exact q.elim
      · exact q.elim
  · exact q.elim
end
/-- a def with its code object -/
structure DefAt (K : PySem.W.Frag) (x qual : Str) (st : Stmt) (dvs : List V) (f : Addr) (cdv : Value) : Prop where
  ex : ∃ (oc : Value) (od : Option Addr) (dV kV doc pm : Value) (an : Option Addr) (ct : Value) (osl : Array (Option Value)),
    K.lookup f = some ⟨oc, od, .func (PySem.W.fnOf x qual (defArgs st) (defBody st) (defScope st) dV kV doc pm an cdv ct), osl⟩ ∧ DflV K dV dvs
  cd : PySem.W.codeIn K cdv qual = true
  kp : PySem.W.keepIn K (.ref f) = true
theorem defAt0 {K : PySem.W.Frag} {x qual : Str} {st : Stmt} {f : Addr} {oc : Value} {od an : Option Addr} {osl : Array (Option Value)} {kV doc pm cdv ct : Value} (l : K.lookup f = some ⟨oc, od, .func (PySem.W.fnOf x qual (defArgs st) (defBody st) (defScope st) .none kV doc pm an cdv ct), osl⟩)
    (c : PySem.W.codeIn K cdv qual = true) (k : PySem.W.keepIn K (.ref f) = true) : DefAt K x qual st [] f cdv := ⟨⟨oc, od, .none, kV, doc, pm, an, ct, osl, l, .inl ⟨rfl, rfl⟩⟩, c, k⟩
theorem defAt1 {K : PySem.W.Frag} {x qual : Str} {st : Stmt} {f D : Addr} {oc : Value} {od an : Option Addr} {osl : Array (Option Value)} {kV doc pm cdv ct : Value} {oD : Obj} {its : List Value} {n : Nat} {dvs : List V} (l : K.lookup f = some ⟨oc, od, .func (PySem.W.fnOf x qual (defArgs st) (defBody st) (defScope st) (.ref D) kV doc pm an cdv ct), osl⟩)
    (c : PySem.W.codeIn K cdv qual = true) (k : PySem.W.keepIn K (.ref f) = true) (lD : K.lookup D = some oD) (dD : oD.data = .seq its.toArray n) (hv : Vals dvs its) (hne : dvs ≠ []) : DefAt K x qual st dvs f cdv := ⟨⟨oc, od, .ref D, kV, doc, pm, an, ct, osl, l, .inr ⟨hne, D, oD, its, n, rfl, lD, dD, hv⟩⟩, c, k⟩
section
variable {P : Program} {wd : World} {K : PySem.W.Frag} {mg : Str → Option Value} {base : Heap} {T : Tbl} {x qual : Str} {st : Stmt} {dvs : List V} {f : Addr} {cdv : Value} {N ps : List Str} {k : Nat} {g : Sl → Om → Out Res}
theorem DefAt.funD (F : DefAt K x qual st dvs f cdv) : ∃ fd, FunD K x qual (defArgs st) (defBody st) (defScope st) dvs [] f fd := by
  obtain ⟨oc, od, dV, kV, doc, pm, an, ct, osl, l, hd⟩ := F.ex
  exact ⟨_, ⟨oc, od, dV, kV, doc, pm, an, cdv, ct, osl, rfl, l, F.cd, hd, .inl rfl⟩, F.kp⟩
/-- what a body's derivation is given -/
def BodyD (P : Program) (wd : World) (K : PySem.W.Frag) (mg : Str → Option Value) (base : Heap) (T : Tbl) (qual : Str) (st : Stmt) (f : Addr) (cdv : Value) (N : List Str) (k : Nat) (g : Sl → Om → Out Res) : Prop :=
  ∀ (A : Around) (outer : List Env) (s : Shared) (H : Hp) (E : XK), Room k (CxF P wd K mg base N qual (defScope st) f cdv A outer s H E).A → Takes (CxF P wd K mg base N qual (defScope st) f cdv A outer s H E) (fun cls d _ H => E cls d H) →
    DSs (CxF P wd K mg base N qual (defScope st) f cdv A outer s H E) T (fun cls d _ H => E cls d H) (defBody st) g
theorem dfn_at (F : DefAt K x qual st dvs f cdv) (S : FnScope N ps (defScope st)) (hbody : BodyD P wd K mg base T qual st f cdv N k g) : ∃ fd, FunD K x qual (defArgs st) (defBody st) (defScope st) dvs [] f fd ∧ FnOk P wd K mg base (L2.CX P wd) (k + 1) f fd ps (spW K mg T ps.length (fnD N.length g)) := by
  obtain ⟨oc, od, dV, kV, doc, pm, an, ct, osl, l, hd⟩ := F.ex
  refine ⟨_, ⟨⟨oc, od, dV, kV, doc, pm, an, cdv, ct, osl, rfl, l, F.cd, hd, .inl rfl⟩, F.kp⟩, ?_⟩
  refine fn_of l F.cd S (fun vs H Q E h => h.1) (fun A outer s H vs Q E hr h => ?_)
  obtain ⟨hl, Xs, w, ds, W, hv, h⟩ := h
  have tk : Takes (CxF P wd K mg base N qual (defScope st) f cdv A outer s H E) (fun cls d _ H => E cls d H) := L2.takes_of rfl rfl rfl rfl
  obtain ⟨ts, ps', run⟩ := (hbody A outer s H E hr tk).run
  refine ⟨ts, ps', run (Gin K T H w Xs) [] w (slots0 N.length ds) _ H _ rfl rfl ⟨W, [], List.nodup_nil, fun _ z => z, slots_start hv⟩ ?_⟩
  unfold fnD at h
  rw [Out.sat_bind] at h
  refine h.imp (fun res w' q => ?_) (fun e r' w' q cls od O' s' H' R p => ?_)
  · cases res with
    | nx r' =>
      have q2 : ∀ v H', Wor (Gin K T H w Xs) [] w' H' → Rep K (Fx (Gin K T H w Xs) [] w') H' v .non → Q v H' := q
      exact fun O' s' H' R t => q2 .non H' R.toWor.bare .non
    | rt d =>
      have q2 : ∀ v H', Wor (Gin K T H w Xs) [] w' H' → Rep K (Fx (Gin K T H w Xs) [] w') H' v d → Q v H' := q
      exact fun v H' W' p => q2 v H' W' p
    | bk r' => exact q.elim
    | ct r' => exact q.elim
  · exact q cls od H' R.toWor.bare (XRep.bare (G := Gin K T H w Xs) p)
theorem fnAt0 (F : DefAt K x qual st [] f cdv) (S : FnScope N ps (defScope st)) (hbody : BodyD P wd K mg base T qual st f cdv N k g)
    (hb : ∀ (kV doc pm : Value) (an : Option Addr) (cdv ct : Value) (us : List Value), us.length = ps.length → bindArgs (PySem.W.fnOf x qual (defArgs st) (defBody st) (defScope st) .none kV doc pm an cdv ct) ⟨us, []⟩ = pure (ps.zip us)) : FnN P wd K mg base T (k + 1) f ps.length [] (fnD N.length g) := by
  obtain ⟨fd, F', ok⟩ := dfn_at F S hbody
  exact ⟨fd, ps, [], [], rfl, ok, F'.bindsN hb, .nil, fun _ _ => .nil⟩
theorem fnAt1 (F : DefAt K x qual st dvs f cdv) (S : FnScope N ps (defScope st)) (hbody : BodyD P wd K mg base T qual st f cdv N k g) (n j : Nat) (dd : List D) (hd : dvs ≠ []) (hn : n + (dvs.length - j) = ps.length) (hdd : ∀ F H, Reps K F H (dvs.drop j) dd)
    (hb : ∀ (D : Addr) (kV doc pm : Value) (an : Option Addr) (cdv ct : Value) (us its : List Value), us.length = n → its.length = dvs.length →
      ∃ k, bindArgs (PySem.W.fnOf x qual (defArgs st) (defBody st) (defScope st) (.ref D) kV doc pm an cdv ct) ⟨us, []⟩ = seqItems? (.ref D) >>= k ∧ k (some its.toArray) = pure (ps.zip (us ++ its.drop j))) : FnN P wd K mg base T (k + 1) f ps.length dd (fnD N.length g) := by
  obtain ⟨fd, F', ok⟩ := dfn_at F S hbody
  obtain ⟨dus, h1, h2⟩ := F'.binds1 n j hd hn hb
  exact ⟨fd, ps, dus, _, rfl, ok, h2, h1, hdd⟩
end
end DL

set_option Elab.async false
set_option linter.all false
set_option maxRecDepth 100000
set_option maxHeartbeats 1000000
/-! DL26: small helps for the printed texts. -/
namespace DL
open PySem PySem.Spec L2
open PyProof.Rows hiding St
theorem takesN {X : Cx} : Takes X WNo := LamX.takes0
inductive FreeL (sc : Scope) : List Str → Prop
  | nil : FreeL sc []
  | cons {x : Str} {l : List Str} : (sc.names.lookup x = some .cell ∨ sc.names.lookup x = some .free) → FreeL sc l → FreeL sc (x :: l)
theorem FreeL.all {sc : Scope} : ∀ {l : List Str}, FreeL sc l → ∀ x ∈ l, sc.names.lookup x = some .cell ∨ sc.names.lookup x = some .free
  | _, .cons h t, x, hx => by
    rcases List.mem_cons.mp hx with rfl | hx
    · exact h
    · exact t.all x hx
theorem blk_ok {sc scope : Scope} {own : List (Str × Nat)} (N l : List Str)
    (h : scope.kind = .function ∧ (∀ y ∈ scope.names, scope.names.lookup y.1 = some y.2) ∧ (∀ p ∈ own, N[p.2]? = some p.1) ∧ (∀ y ∈ scope.names, y.2 = .free → y.1 ∈ l) ∧ (∀ y ∈ scope.names, y.2 = .local ∨ y.2 = .cell → y.1 ∈ own.map (·.1) ∨ y.1 ∉ N))
    (hf : FreeL sc l) : BlkOk N sc scope own := ⟨h.1, h.2.1, h.2.2.1, fun y hy e => hf.all _ (h.2.2.2.1 y hy e), h.2.2.2.2⟩
theorem un0 {k : Nat} {A : Around} (r : Room k A) : A.units + 64 < cLine := by have := r.un; omega
theorem un1 {k : Nat} {A : Around} (r : Room k A) : A.units + 65 < cLine := by have := r.un; omega
theorem un2 {k : Nat} {A : Around} (r : Room k A) : A.units + 1 < cLine := by have := r.un; omega
end DL

set_option Elab.async false
set_option linter.all false
set_option maxRecDepth 100000
set_option maxHeartbeats 2000000
/-! DL27: the law's own def: the world is empty, the tables are empty. -/
namespace DL
open PySem PySem.Spec L2
open PyProof.Rows hiding St
theorem tabB_of {base : Heap} {mg : Str → Option Value} {c P : Addr} (h : LamX.TabB base mg c P) : GxR.TabB base mg c P := ⟨h.1, h.2, h.3⟩
abbrev w00 : Om := fun _ => none
theorem wor0 {K : PySem.W.Frag} {T : Tbl} {H : Hp} (ht : ∀ P ∈ T.ts, H P = some (.tbl #[])) (hl : ∀ p ∈ T.ls, p.1 ∈ T.ts) : Wor (Gin K T H w00 (fun _ => False)) [] w00 H where
  keep := fun a o e _ _ => ⟨e, rfl, by simp⟩
  tabs := fun P hP => ⟨#[], ht P hP, trivial⟩
  wok := fun a m e => by cases e
  odis := ⟨List.nodup_nil, fun a m => by cases m⟩
  wdis := fun a m => absurd rfl m
  xsome := fun a m => m.elim
  osome := fun a m => by cases m
  ltabs := fun p hp => ⟨hl p hp, #[], ht _ (hl p hp), trivial, fun pos cv e => by cases e⟩
def spL (K : PySem.W.Frag) (cs : List (Addr × Addr)) : Sp := fun vs H Q _ => ∃ (a : Addr) (ns : List Int), vs = [.ref a] ∧ ns.length ≤ 63 ∧ (∀ z ∈ ns, Builtin.Int.intBits z ≤ 1048576) ∧ (∀ p ∈ cs, H p.2 = some (.tbl #[])) ∧ SqL K H a (ns.map V.int) ∧ ∀ v H', v = .bl true → Q v H'
/-- what is asked of the law's meaning -/
structure LawHolds (n : Nat) (g : Sl → Om → Out Res) : Prop where
  run : ∀ ns : List Int, ns.length ≤ 63 → (∀ z ∈ ns, Builtin.Int.intBits z ≤ 1048576) → (fnD n g [.fl (ns.map .int)] w00).Sat (fun d _ => d = .bl true) fun _ _ _ => False
section
variable {P : Program} {wd : World} {K : PySem.W.Frag} {mg : Str → Option Value} {x : Str} {st : Stmt} {f : Addr} {cdv : Value} {N : List Str} {k : Nat} {g : Sl → Om → Out Res} {cs : List (Addr × Addr)}
theorem law_fn (F : DefAt K "law" "law" st [] f cdv) (S : FnScope N [x] (defScope st))
    (hb : ∀ (kV doc pm : Value) (an : Option Addr) (cdv ct : Value) (u : Value), bindArgs (PySem.W.fnOf "law" "law" (defArgs st) (defBody st) (defScope st) .none kV doc pm an cdv ct) ⟨[u], []⟩ = pure [(x, u)])
    (hbody : ∀ (base : Heap), (∀ p ∈ cs, LamX.TabB base mg p.1 p.2) → ∀ (A : Around) (outer : List Env) (s : Shared) (H : Hp) (E : XK), Room k (CxF P wd K mg base N "law" (defScope st) f cdv A outer s H E).A → Takes (CxF P wd K mg base N "law" (defScope st) f cdv A outer s H E) (fun cls d _ H => E cls d H) →
      ∃ T : Tbl, (∀ P ∈ T.ts, ∃ c, (c, P) ∈ cs) ∧ (∀ p ∈ T.ls, p.1 ∈ T.ts) ∧ DSs (CxF P wd K mg base N "law" (defScope st) f cdv A outer s H E) T (fun cls d _ H => E cls d H) (defBody st) g)
    (hm : LawHolds N.length g) :
    ∃ fd, (∀ (s : Shared) (u : Value), BindsTo s fd ⟨[u], []⟩ [(x, u)]) ∧ ∀ base : Heap, (∀ p ∈ cs, LamX.TabB base mg p.1 p.2) → FnOk P wd K mg base (L2.CX P wd) (k + 1) f fd [x] (spL K cs) := by
  obtain ⟨oc, od, dV, kV, doc, pm, an, ct, osl, l, hd⟩ := F.ex
  rcases hd with ⟨_, rfl⟩ | ⟨e, _⟩
  · refine ⟨_, fun s u => .of_eq (hb kV doc pm an cdv ct u), fun base hB => ?_⟩
    refine fn_of l F.cd S (fun vs H Q E h => ?_) (fun A outer s H vs Q E hr h => ?_)
    · obtain ⟨a, ns, rfl, _⟩ := h
      rfl
    obtain ⟨a, ns, rfl, h63, hbits, hT, hS, hQ⟩ := h
    have tk : Takes (CxF P wd K mg base N "law" (defScope st) f cdv A outer s H E) (fun cls d _ H => E cls d H) := L2.takes_of rfl rfl rfl rfl
    obtain ⟨T, ht, hl, dss⟩ := hbody base hB A outer s H E hr tk
    obtain ⟨ts, ps', run⟩ := dss.run
    have ht' : ∀ P ∈ T.ts, H P = some (.tbl #[]) := fun P hP => let ⟨c, hc⟩ := ht P hP; hT _ hc
    have W := wor0 (K := K) ht' hl
    have hv : Reps K (Fx (Gin K T H w00 fun _ => False) [] w00) H [.ref a] [.fl (ns.map .int)] := by
      refine .one (.fl ?_ (Reps.of_ints ns))
      rcases hS with h | h
      · refine .inl ⟨h, fun hF => ?_⟩
        rcases hF with hF | hF | hF | hF
        · cases hF
        · exact hF rfl
        · exact hF
        · have e := ht' a hF
          rcases h with h | ⟨o, h⟩
          · rw [e] at h; cases h
          · rw [e] at h; cases h
      · exact .inr h
    refine ⟨ts, ps', run (Gin K T H w00 fun _ => False) [] w00 (slots0 N.length [.fl (ns.map .int)]) _ H _ rfl rfl ⟨W, [], List.nodup_nil, fun _ z => z, slots_start hv⟩ ?_⟩
    have h := hm.run ns h63 hbits
    unfold fnD at h
    rw [Out.sat_bind] at h
    refine h.imp (fun res w' q => ?_) (fun e r' w' q => q.elim)
    cases res with
    | nx r' =>
      have q2 : D.non = D.bl true := q
      cases q2
    | rt d =>
      have q2 : d = D.bl true := q
      subst q2
      exact fun v H' W' p => hQ v H' p.bl'
    | bk r' => exact q.elim
    | ct r' => exact q.elim
  · exact absurd rfl e
end
/-- no lambdas -/
def tbl0 (cs : List (Addr × Addr)) : Tbl := ⟨cs.map (·.2), [], fun _ _ _ _ => False, fun _ _ _ _ _ _ _ _ h => h, fun _ _ _ _ h => h.elim⟩
end DL

set_option Elab.async false
set_option linter.all false
set_option maxRecDepth 100000
set_option maxHeartbeats 2000000
/-! DL28: the law's lambdas. -/
namespace DL
open PySem PySem.Spec L2
open PyProof.Rows hiding St
theorem free_ok {sc scope : Scope} (l : List Str) (h : ∀ y ∈ scope.names, y.2 = .free → y.1 ∈ l) (hf : FreeL sc l) : ∀ y ∈ scope.names, y.2 = .free → sc.names.lookup y.1 = some .cell ∨ sc.names.lookup y.1 = some .free := fun y hy e => hf.all _ (h y hy e)
/-! paths into expressions -/
def exKids : Expr → List Expr
  | .BinOp a _ b _ => [a, b]
  | .Call f es _ _ => f :: es
  | .List es _ => es
  | .Tuple es _ _ => es
  | .Subscript a i _ => [a, i]
  | _ => []
def exAt : List Nat → Expr → Expr
  | [], e => e
  | i :: is, e => exAt is ((exKids e).getD i e)
def stE : Stmt → Expr
  | .Assign _ e _ => e
  | .Expr e _ => e
  | .For _ e _ _ _ => e
  | .Return (some e) _ => e
  | _ => .Constant .none 0 ⟨0, 0, 0, 0⟩
def stAt (l : List Stmt) (i : Nat) : Stmt := l.getD i (.Pass ⟨0, 0, 0, 0⟩)
def lamP : Expr → Arguments
  | .Lambda ps _ _ _ => ps
  | _ => ⟨[], [], none, [], [], none, []⟩
def lamB : Expr → Expr
  | .Lambda _ b _ _ => b
  | e => e
def lamS : Expr → Scope
  | .Lambda _ _ s _ => s
  | _ => { kind := .function, names := [], isGenerator := false, isCoroutine := false, more := [] }
structure LamR where
  e : Expr
  ds : List V
def lamTbl (ts : List Addr) (P : Addr) (env : Env) (L : Nat → LamR) : Tbl where
  ts := ts
  ls := [(P, env.qual ++ "<lambda>")]
  lm := fun n F H f => LamAt (env.qual ++ "<lambda>") (lamP (L n).e) (lamB (L n).e) (lamS (L n).e) (cloFrom env.cells (lamS (L n).e).names []) (L n).ds F H f
  lmS := fun n F H F' H' a t e h => by
    obtain ⟨c', dV, h1, h2, h3, h4⟩ := h
    refine ⟨c', dV, (t _ _ h1 h2).1, (t _ _ h1 h2).2, e _ h3, ?_⟩
    rcases h4 with h4 | ⟨h4, D, h5, h6, h7⟩
    · exact .inl h4
    · exact .inr ⟨h4, D, h5, (t _ _ h6 h7).1, (t _ _ h6 h7).2⟩
  lmA := fun n F H a h => by
    obtain ⟨c', dV, h1, h2, h3, h4⟩ := h
    rw [h3]
    intro z
    cases z
theorem lamTbl_in {ts : List Addr} {P : Addr} {env : Env} {L : Nat → LamR} : (P, env.qual ++ "<lambda>") ∈ (lamTbl ts P env L).ls := List.mem_cons_self ..
theorem lamTbl_un {ts : List Addr} {P : Addr} {env : Env} {L : Nat → LamR} : ∀ p ∈ (lamTbl ts P env L).ls, p.1 = P → p.2 = env.qual ++ "<lambda>" := fun p hp _ => by
  rw [List.mem_singleton.mp hp]
theorem lamTbl_no {ts : List Addr} {P Q : Addr} {env : Env} {L : Nat → LamR} (h : (P == Q) = false) : ∀ p ∈ (lamTbl ts P env L).ls, p.1 ≠ Q := fun p hp e => by
  rw [List.mem_singleton.mp hp] at e
  have e : P = Q := e
  rw [e] at h
  simp at h
theorem lamTbl_sub {ts : List Addr} {P : Addr} {env : Env} {L : Nat → LamR} (h : P ∈ ts) : ∀ p ∈ (lamTbl ts P env L).ls, p.1 ∈ (lamTbl ts P env L).ts := fun p hp => by
  rw [List.mem_singleton.mp hp]
  exact h
theorem tbl0_no {cs : List (Addr × Addr)} {Q : Addr} : ∀ p ∈ (tbl0 cs).ls, p.1 ≠ Q := fun p hp => by cases hp
def tabsOf (cs : List (Addr × Addr)) : List Addr := cs.map (·.2)
theorem cs_ts {cs : List (Addr × Addr)} : ∀ P ∈ tabsOf cs, ∃ c, (c, P) ∈ cs := fun P h => by
  obtain ⟨⟨c, Q⟩, h1, h2⟩ := List.mem_map.mp h
  exact ⟨c, by rw [← h2]; exact h1⟩
theorem cx_no {P : Program} {w : World} {H : Hp} {s : Shared} {e : Value} {s' : Shared} (h : L2.CX P w [] H s (fun _ _ _ => False) e s') : False := by
  obtain ⟨_, _, _, _, _, _, _, _, _, _, _, _, z⟩ := h
  exact z
theorem spL_ok {K : PySem.W.Frag} {cs : List (Addr × Addr)} (H : Hp) (a : Addr) (ns : List Int) (h1 : ns.length ≤ 63) (h2 : ∀ z ∈ ns, Builtin.Int.intBits z ≤ 1048576) (h3 : ∀ p ∈ cs, H p.2 = some (.tbl #[])) (h4 : SqL K H a (ns.map V.int)) : spL K cs [.ref a] H (fun v _ => v = .bl true) fun _ _ _ => False :=
  ⟨a, ns, rfl, h1, h2, h3, h4, fun _ _ e => e⟩
/-- each of the lambdas from the n-th on -/
inductive LamsOk (X : Cx) (T : Tbl) (k : Nat) : Nat → List (Sl → Om → Out D) → Prop
  | nil {n : Nat} : LamsOk X T k n []
  | cons {n : Nat} {m : Sl → Om → Out D} {ms : List (Sl → Om → Out D)} : LamOk X T k n m → LamsOk X T k (n + 1) ms → LamsOk X T k n (m :: ms)
theorem LamsOk.at_ {X : Cx} {T : Tbl} {k : Nat} : ∀ {ms : List (Sl → Om → Out D)} {n0 : Nat}, LamsOk X T k n0 ms → ∀ n m, ms[n]? = some m → LamOk X T k (n0 + n) m
  | _, _, .nil, n, m, e => by simp at e
  | _, _, .cons h _, 0, m, e => by
    simp at e
    subst e
    exact h
  | _, n0, .cons _ t, n + 1, m, e => by
    have q := t.at_ n m (by simpa using e)
    rw [show n0 + (n + 1) = n0 + 1 + n by omega]
    exact q
theorem LamsOk.all {X : Cx} {T : Tbl} {k : Nat} {ms : List (Sl → Om → Out D)} (h : LamsOk X T k 0 ms) : ∀ n m, ms[n]? = some m → LamOk X T k n m := fun n m e => by
  have q := h.at_ n m e
  rwa [Nat.zero_add] at q
theorem lam_ok {X : Cx} {T : Tbl} {k n : Nat} {m : Sl → Om → Out D} {params : Arguments} {body : Expr} {scope : Scope} {ds : List V} (N l : List Str) (xs : List Str) (ha : ∀ F H f, T.lm n F H f → LamAt (X.env.qual ++ "<lambda>") params body scope (cloFrom X.env.cells scope.names []) ds F H f)
    (h : (scope.kind = .function ∧ (∀ y ∈ scope.names, scope.names.lookup y.1 = some y.2) ∧ (∀ p ∈ ([] : List (Str × Nat)), N[p.2]? = some p.1) ∧ (∀ y ∈ scope.names, y.2 = .free → y.1 ∈ l) ∧ (∀ y ∈ scope.names, y.2 = .local ∨ y.2 = .cell → y.1 ∈ ([] : List (Str × Nat)).map (·.1) ∨ y.1 ∉ N)) ∧ (∀ y ∈ scope.names, y.2 ≠ .cell) ∧ scope.isCoroutine = false ∧ scope.isGenerator = false ∧ ∀ x ∈ xs, scope.names.lookup x = some .local)
    (hN : X.N = N) (hf : FreeL X.env.scope l) (hb : LamBind (X.env.qual ++ "<lambda>") params body scope ds xs)
    (he : ∀ (E : XK) (f c' : Addr) (s : Shared) (H : Hp), Room k (X.A.deeper (LamX.lamEnv X scope s.heap.objs.size f c')) → Takes (Lx X s H E scope f c') (fun cls d _ H => E cls d H) → DE (Lx X s H E scope f c') T (fun cls d _ H => E cls d H) body m) : LamOk X T k n m :=
  ⟨params, body, scope, ds, xs, ha, by rw [hN]; exact blk_ok N l h.1 hf, h.2.1, h.2.2.1, h.2.2.2.1, hb, h.2.2.2.2, he⟩
end DL

set_option Elab.async false
set_option linter.all false
set_option maxRecDepth 100000
set_option maxHeartbeats 2000000
/-! DL29: the head's facts, read by a Hook of my own: defs found by paths. -/
namespace DL
open PySem PySem.Spec L2
open PyProof.Rows hiding St
abbrev AdF := PySem.W.Frag → Addr
def aG (x : Str) : AdF := fun K => He.ga K x
def aM (C m : Str) : AdF := fun K => He.ma K (He.ga K C) m
/-- a property's getter -/
def aP (C m : Str) : AdF := fun K => match PySem.W.recIn K (He.ma K (He.ga K C) m) "property" with
  | some (.ref g :: _) => g
  | _ => 0
structure DefX where
  at_ : AdF
  name : Str
  qual : Str
  params : Arguments
  body : List Stmt
  scope : Scope
  dfl : List He.Dv
abbrev FnX : Type := Option (Str × Str × Arguments × FuncBody × Scope × Addr × List (Str × Addr) × Addr)
def fnX (K : PySem.W.Frag) (f : Addr) : FnX := match K.lookup f with
  | some ⟨_, _, .func fd, _⟩ => some (fd.name, fd.qualname, fd.params, fd.body, fd.scope, fd.globals, fd.closure, fd.builtins)
  | _ => none
def DefX.val (d : DefX) : FnX := some (d.name, d.qual, d.params, .stmts d.body, d.scope, mainGlobals, [], builtinsNs)
def DefX.dvs (K : PySem.W.Frag) (d : DefX) : List V := d.dfl.map (He.Dv.v K)
def DefX.ok (K : PySem.W.Frag) (d : DefX) : Bool := PySem.W.keepIn K (.ref (d.at_ K)) && (match K.lookup (d.at_ K) with
  | some ⟨_, _, .func fd, _⟩ => PySem.W.codeIn K fd.code d.qual && He.dflB K fd.defaults (d.dvs K)
  | _ => false)
/-- a def's code object -/
def codeV (K : PySem.W.Frag) (f : Addr) : Value := match K.lookup f with
  | some ⟨_, _, .func fd, _⟩ => fd.code
  | _ => .none
def codeA (K : PySem.W.Frag) (f : Addr) : Addr := match codeV K f with
  | .ref c => c
  | _ => 0
theorem DefX.defAt {K : PySem.W.Frag} {d : DefX} {st : Stmt} (e : fnX K (d.at_ K) = d.val) (c : d.ok K = true) (hp : d.params = defArgs st) (hb : d.body = defBody st) (hs : d.scope = defScope st) :
    DefAt K d.name d.qual st (d.dvs K) (d.at_ K) (codeV K (d.at_ K)) := by
  obtain ⟨kp, c2⟩ := He.ba c
  unfold fnX at e
  cases q : K.lookup (d.at_ K) with
  | none =>
    rw [q] at c2
    cases c2
  | some o =>
    obtain ⟨oc, od, dt, osl⟩ := o
    rw [q] at c2 e
    cases dt with
    | func fd =>
      have ec : codeV K (d.at_ K) = fd.code := by unfold codeV; rw [q]
      obtain ⟨n1, n2, n3, n4, n5, n6, n7, n8, n9, n10, n11, n12, n13, n14, n15⟩ := fd
      have e2 : (some (n1, n2, n3, n4, n5, n6, n7, n15) : FnX) = some (d.name, d.qual, d.params, .stmts d.body, d.scope, mainGlobals, [], builtinsNs) := e
      simp only [Option.some.injEq, Prod.mk.injEq] at e2
      obtain ⟨h1, h2, h3, h4, h5, h6, h7, h8⟩ := e2
      have c3 : (PySem.W.codeIn K n13 d.qual && He.dflB K n8 (d.dvs K)) = true := c2
      obtain ⟨k1, k2⟩ := He.ba c3
      rw [ec]
      rw [hp] at h3
      rw [hb] at h4
      rw [hs] at h5
      subst h1 h2 h3 h4 h5 h6 h7 h8
      exact ⟨⟨oc, od, n8, n9, n10, n11, n12, n14, osl, q, He.dflB_ok k2⟩, k1, kp⟩
    | _ => cases c2
theorem DefAt.codeRef {K : PySem.W.Frag} {x qual : Str} {st : Stmt} {dvs : List V} {f : Addr} (h : DefAt K x qual st dvs f (codeV K f)) : DefAt K x qual st dvs f (.ref (codeA K f)) := by
  obtain ⟨c, e⟩ := He.codeIn_ref h.cd
  have : codeA K f = c := by unfold codeA; rw [e]
  rw [this, ← e]
  exact h
/-! ### tables -/
def cTA (K : PySem.W.Frag) (f : Addr) : Addr × Addr := (codeA K f, He.tabOf K (codeA K f))
def tabsX (g : Addr → Option Obj) (tf : List AdF) (K : PySem.W.Frag) : Bool := tf.all fun p => PySem.W.codeHdIn K (cTA K (p K)).1 (cTA K (p K)).2 && (match g (cTA K (p K)).2 with
  | some o => He.emptyTab o
  | none => false)
abbrev AlH : Type := Bool × List FnX
def obsH (fa : List He.Fa) (fn : List DefX) (tf : List AdF) (ex : PySem.W.Frag → Bool) (g : Addr → Option Obj) (K : PySem.W.Frag) : AlH := ((fa.all fun f => f.ok K) && ((fn.all fun d => d.ok K) && (ex K && tabsX g tf K)), fn.map fun d => fnX K (d.at_ K))
def valH (fn : List DefX) : AlH := (true, fn.map DefX.val)
structure SaysH (fa : List He.Fa) (fn : List DefX) (tf : List AdF) (ex : PySem.W.Frag → Bool) (h : Heap) (K : PySem.W.Frag) : Prop where
  fact : ∀ f ∈ fa, f.ok K = true
  dok : ∀ d ∈ fn, d.ok K = true ∧ fnX K (d.at_ K) = d.val
  more : ex K = true
  hd : ∀ p ∈ tf, PySem.W.codeHdIn K (cTA K (p K)).1 (cTA K (p K)).2 = true
  out : ∀ p ∈ tf, K.lookup (cTA K (p K)).2 = none
  empty : ∀ p ∈ tf, h.get? (cTA K (p K)).2 = some { cls := .none, data := .fields #[] }
theorem map_eq_mem {α β : Type} {f g : α → β} : ∀ {l : List α}, l.map f = l.map g → ∀ x ∈ l, f x = g x
  | a :: l, h, x, hx => by
    rw [List.map_cons, List.map_cons] at h
    injection h with h1 h2
    rcases List.mem_cons.mp hx with rfl | hx
    · exact h1
    · exact map_eq_mem h2 x hx
theorem saysH_of {n : Nat} {fa : List He.Fa} {fn : List DefX} {tf : List AdF} {ex : PySem.W.Frag → Bool} {h : Heap} (e : obsH fa fn tf ex h.get? (He.frT h.get? (He.asD h.get? n)) = valH fn) : SaysH fa fn tf ex h (He.frT h.get? (He.asD h.get? n)) := by
  have e1 := congrArg (fun z : AlH => z.1) e
  have e2 : fn.map (fun d => fnX (He.frT h.get? (He.asD h.get? n)) (d.at_ (He.frT h.get? (He.asD h.get? n)))) = fn.map DefX.val := congrArg (fun z : AlH => z.2) e
  obtain ⟨h1, h2⟩ := He.ba e1
  obtain ⟨h3, h4⟩ := He.ba h2
  obtain ⟨h5, h6⟩ := He.ba h4
  have key : ∀ p ∈ tf, PySem.W.codeHdIn (He.frT h.get? (He.asD h.get? n)) (cTA (He.frT h.get? (He.asD h.get? n)) (p (He.frT h.get? (He.asD h.get? n)))).1 (cTA (He.frT h.get? (He.asD h.get? n)) (p (He.frT h.get? (He.asD h.get? n)))).2 = true ∧ ∃ o, h.get? (cTA (He.frT h.get? (He.asD h.get? n)) (p (He.frT h.get? (He.asD h.get? n)))).2 = some o ∧ He.emptyTab o = true := fun p hp => by
    obtain ⟨k1, k2⟩ := He.ba (List.all_eq_true.mp h6 p hp)
    refine ⟨k1, ?_⟩
    cases q : h.get? (cTA (He.frT h.get? (He.asD h.get? n)) (p (He.frT h.get? (He.asD h.get? n)))).2 with
    | none =>
      rw [q] at k2
      cases k2
    | some o =>
      rw [q] at k2
      exact ⟨o, rfl, k2⟩
  exact ⟨fun f hf => List.all_eq_true.mp h1 f hf, fun d hd => ⟨List.all_eq_true.mp h3 d hd, map_eq_mem e2 d hd⟩, h5, fun p hp => (key p hp).1, fun p hp => by
    obtain ⟨_, o, q, z⟩ := key p hp
    exact He.frT_none q z, fun p hp => by
    obtain ⟨_, o, q, z⟩ := key p hp
    rw [q, He.emptyTab_eq z]⟩
def hookH (n : Nat) (fa : List He.Fa) (fn : List DefX) (tf : List AdF) (ex : PySem.W.Frag → Bool) : PySem.W.Hook where
  α := AlH
  obs := fun s => obsH fa fn tf ex s.heap.get? (He.frT s.heap.get? (He.asD s.heap.get? n))
  val := fun _ => valH fn
  says := fun _ h => ∃ K : PySem.W.Frag, K.In h ∧ SaysH fa fn tf ex h K
  of := fun _ _ e => ⟨_, He.frT_in, saysH_of e⟩
  keeps := fun _ _ _ ⟨K, hK, c⟩ k => ⟨K, PySem.W.Frag.In.keeps hK k, ⟨c.fact, c.dok, c.more, c.hd, c.out, fun p hp => k _ _ (c.empty p hp)⟩⟩
def obHT (n : Nat) (fa : List He.Fa) (fn : List DefX) (tf : List AdF) (ex : PySem.W.Frag → Bool) (s : PySem.W.SharedT) : AlH := obsH fa fn tf ex (HandSHeadRun.getT s) (He.frT (HandSHeadRun.getT s) (He.asD (HandSHeadRun.getT s) n))
theorem obHT_eq {n : Nat} {fa : List He.Fa} {fn : List DefX} {tf : List AdF} {ex : PySem.W.Frag → Bool} (s : PySem.W.SharedT) : obHT n fa fn tf ex s = (hookH n fa fn tf ex).obs s.abs := by
  have e : HandSHeadRun.getT s = s.abs.heap.get? := funext (HandSHeadRun.getT_eq s)
  unfold obHT
  rw [e]
  rfl
/-! ### more facts -/
def propB (K : PySem.W.Frag) (C f : Str) : Bool := He.eqO (PySem.W.findIn K (.ref (He.ga K C)) f) (some (some (.ref (He.ma K (He.ga K C) f)))) && (He.eqO (PySem.W.specialIn K (.ref (He.ma K (He.ga K C) f)) "__get__") (some (some (.builtin "property.__get__"))) &&
  (decide (PySem.W.takesIn K (.ref (He.ma K (He.ga K C) f)) = some true) && (match PySem.W.recIn K (He.ma K (He.ga K C) f) "property" with
    | some (.ref _ :: _) => true
    | _ => false)))
theorem propB_ok {K : PySem.W.Frag} {C f : Str} (h : propB K C f = true) : PropOf K (He.ga K C) f (He.ma K (He.ga K C) f) (aP C f K) := by
  obtain ⟨h1, h⟩ := He.ba h
  obtain ⟨h2, h⟩ := He.ba h
  obtain ⟨h3, h4⟩ := He.ba h
  refine ⟨He.eqO_ok h1, He.eqO_ok h2, of_decide_eq_true h3, ?_⟩
  unfold aP
  split at h4
  · rename_i g r e
    rw [e]
    exact ⟨r, rfl⟩
  · cases h4
/-- a tuple of ints of the module -/
def tupI (K : PySem.W.Frag) (x : Str) (ns : List Int) : Bool := He.tupB K x (ns.map .int)
theorem tupI_ok {K : PySem.W.Frag} {x : Str} {ns : List Int} (h : tupI K x ns = true) : KT K (He.ga K x) (ns.map V.int) := by
  have q := He.tupB_ok h (fun _ => none)
  rw [List.map_map] at q
  rcases q with q | q
  · rcases q with q | ⟨o, q⟩ <;> cases q
  · exact q
/-- the token of an int of the module -/
def tiN (K : PySem.W.Frag) (x : Str) : Nat := match PySem.W.nsIn K mainGlobals x with
  | some (some (.int _ t)) => t
  | _ => 0
def tiB (K : PySem.W.Frag) (x : Str) (i : Int) : Bool := match PySem.W.nsIn K mainGlobals x with
  | some (some (.int j _)) => decide (j = i)
  | _ => false
theorem tiB_ok {K : PySem.W.Frag} {h : Heap} {mg : Str → Option Value} (X : K.In h) (G : h.Ns mainGlobals mg) {x : Str} {i : Int} (c : tiB K x i = true) : mg x = some (.int i (tiN K x)) := by
  have c2 : (match PySem.W.nsIn K mainGlobals x with
    | some (some (.int j _)) => decide (j = i)
    | _ => false) = true := c
  cases e : PySem.W.nsIn K mainGlobals x with
  | none =>
    rw [e] at c2
    cases c2
  | some o =>
    rw [e] at c2
    cases o with
    | none => cases c2
    | some v =>
      cases v with
      | int j t =>
        have ej : j = i := of_decide_eq_true c2
        have et : tiN K x = t := by unfold tiN; rw [e]
        rw [et, ← ej]
        exact PySem.W.mg_of X G e
      | _ => cases c2
/-- the end of a law, by such a Hook -/
theorem law_atH {l : PySem.W.OpenLaw} {w : World} {mg : Str → Option Value} {h : Heap} {fa : Addr} {fas : List He.Fa} {fn : List DefX} {tf : List AdF} {ex : PySem.W.Frag → Bool} {k : Nat} {x : Str} {K : PySem.W.Frag} {cs : List (Addr × Addr)} {fl : Addr} (X : K.In h) (c : SaysH fas fn tf ex h K)
    (hcs : ∀ p ∈ cs, ∃ f ∈ tf, p = cTA K (f K)) (hfa : mg "law" = some (.ref fa)) (hfl : mg "law" = some (.ref fl))
    (hl : ∃ fd, (∀ (s : Shared) (u : Value), BindsTo s fd ⟨[u], []⟩ [(x, u)]) ∧ ∀ base : Heap, (∀ p ∈ cs, LamX.TabB base mg p.1 p.2) → FnOk l.prog w K mg base (L2.CX l.prog w) k fl fd [x] (spL K cs)) : LamX.LawAtS l w K (L2.CX l.prog w) k 63 x mg fa h := by
  have e := hfa.symm.trans hfl
  cases e
  obtain ⟨fd, hb, hF⟩ := hl
  refine ⟨fd, cs, _, fun p hp => ?_, fun p hp => ?_, fun p hp => ?_, hb, spL_ok, fun base _ _ hB => hF base hB⟩
  · obtain ⟨f, hf, e⟩ := hcs p hp
    rw [e]
    exact c.empty f hf
  · obtain ⟨f, hf, e⟩ := hcs p hp
    rw [e]
    exact c.out f hf
  · obtain ⟨f, hf, e⟩ := hcs p hp
    rw [e]
    exact PySem.W.codeHd_of_K X (c.hd f hf)
theorem SaysH.fa_ {fas : List He.Fa} {fn : List DefX} {tf : List AdF} {ex : PySem.W.Frag → Bool} {h : Heap} {K : PySem.W.Frag} (c : SaysH fas fn tf ex h K) (i : Nat) {f : He.Fa} (e : fas[i]? = some f) : f.ok K = true := c.fact f (List.mem_of_getElem? e)
theorem SaysH.df_ {fas : List He.Fa} {fn : List DefX} {tf : List AdF} {ex : PySem.W.Frag → Bool} {h : Heap} {K : PySem.W.Frag} (c : SaysH fas fn tf ex h K) (i : Nat) {d : DefX} {st : Stmt} (e : fn[i]? = some d) (hp : d.params = defArgs st) (hb : d.body = defBody st) (hs : d.scope = defScope st) :
    DefAt K d.name d.qual st (d.dvs K) (d.at_ K) (codeV K (d.at_ K)) := (c.dok d (List.mem_of_getElem? e)).1 |> fun h1 => DefX.defAt (c.dok d (List.mem_of_getElem? e)).2 h1 hp hb hs
theorem not_ok {b : Bool} (h : (!b) = true) : b = false := by
  cases b with
  | false => rfl
  | true => cases h
end DL

set_option Elab.async false
set_option linter.all false
set_option maxRecDepth 100000
set_option maxHeartbeats 4000000
/-! DL30: sorted(set(list of ints)), sorted(rows), max. -/
namespace DL
open PySem PySem.Spec L2
open PyProof.Rows hiding St
/-- an empty set as `set` makes it -/
abbrev set00 (w : World) : Obj := { cls := .type "set", dict := none, data := .set #[] 0 (.fresh 0 0 (!w.params.followText "set-order")) }
section
variable {P : Program} {w : World} {A : Around} {E : Value → Shared → Prop} {s : Shared}
/-- the fill: set.__init__ on an empty set, the argument a list of ints -/
theorem fill_list {l : Addr} {its : Array Value} (ns : List Int) {R : Result → Shared → Prop} (hh : A.handled = none) (hl : s.heap.IsList l its) (hi : IntsAre its.toList ns) (hb : ns.length + 1 < scanBound)
    (h : ∀ (h' : Heap) (tk c : Nat), SetR w h' s.heap.objs.size (fun j => decide (j ∈ ns)) c → c ≤ ns.length → (∀ b o, s.heap.get? b = some o → h'.get? b = some o) → R (.ok (.ret .none)) { s with heap := h', toks := tk }) :
    codeAny (model P w) A (.call (.builtin "set.__init__") ⟨[.ref s.heap.objs.size, .ref l], []⟩) R { s with heap := s.heap.push (set00 w) } := by
  have n : its.size = ns.length := by have q := IntsAre.length hi; rwa [Array.length_toList] at q
  obtain ⟨ob, eo, ec, k, ed⟩ := hl
  obtain ⟨oc, odi, oda, osl⟩ := ob
  dsimp only at ec ed
  subst ec ed
  have here : (s.heap.push (set00 w)).get? s.heap.objs.size = some (set00 w) := Heap.get?_push_size _ rfl
  have ls : (s.heap.push (set00 w)).IsList l its := ⟨_, Heap.get?_push_of_some _ eo, rfl, k, rfl⟩
  have lt : l < s.heap.objs.size := Heap.lt_size eo
  have sz : (s.heap.push (set00 w)).objs.size = s.heap.objs.size + 1 := Heap.size_push ..
  have u1 : A.in1.in1.handled = none := by simp [hh]
  have apart : l ≠ (s.heap.push (set00 w)).objs.size := by rw [sz]; exact Nat.ne_of_lt (Nat.lt_succ_of_lt lt)
  have own : s.heap.objs.size ∉ [(s.heap.push (set00 w)).objs.size, l] := by
    intro z
    rcases List.mem_cons.mp z with z | z
    · rw [sz] at z; exact Nat.ne_of_lt (Nat.lt_succ_self _) z
    · exact Nat.ne_of_gt lt (List.mem_singleton.mp z)
  have tyS : Shared.TypeIs { s with heap := s.heap.push (set00 w) } (.ref s.heap.objs.size) "set" := ⟨_, here, rfl⟩
  refine codeAny_call_builtin F.called_set.init.plain F.entry_set_init (check_set_init_1 tyS ?_)
  have lookL : (s.heap.push (set00 w)).get? l = some { cls := .type "list", dict := odi, data := .seq its k, slots := osl } := Heap.get?_push_of_some _ eo
  have s1 := F.sub_list_set
  have s2 := F.sub_list_frozenset
  have s3 : (Value.type "list" == Value.type "dict") = false := by decide
  unfold Builtin.«set.__init__» noKeywords Builtin.Frozenset.updateFrom
  generalize gi : pyIter = PI
  wp_walk
  subst gi
  refine wpAny_pyIter_list ls (wpAny_bind (wpAny_runValue ?_))
  have each : ∀ (i : Nat) (v : Value), its[i]? = some v → ∃ k t, ns[i]? = some k ∧ v = .int k t := by
    intro i v e
    have b : i < ns.length := n ▸ (Array.getElem?_eq_some_iff.mp e).1
    obtain ⟨t, r⟩ := IntsAre.int_at hi i v (by rw [Array.getElem?_toList]; exact e)
    exact ⟨ns[i], t, List.getElem?_eq_getElem b, by rw [r, List.getD_eq_getElem?_getD, List.getElem?_eq_getElem b] <;> rfl⟩
  refine set_update_ints ((Walks.list u1 _ l apart its).toS) s.heap.objs.size own ns n hb each its.size 0 _ (by omega) (Nat.zero_le _) ?walk
    ?start fun t c mv hc new => ?_
  case walk => exact ⟨⟨_, Heap.get?_push_size _ rfl, rfl, rfl⟩, ls.push _⟩
  case start => exact ⟨0, Nat.le_refl 0, setR_new_at (Heap.get?_push_of_some _ here)⟩
  obtain ⟨th, tg, td, tt, tos⟩ := t
  obtain rfl : tg = s.gens := mv.gens
  obtain rfl : td = s.drawn := mv.drawn
  obtain rfl : tos = s.os := mv.os
  rw [n] at hc
  show wpAny _ _ _ _ _ _
  refine wpAny_pure ?_
  show wpAny _ _ (ret Value.none) _ _ _
  refine wpAny_pure (h th tt c new hc fun b u e => ?_)
  have b0 : b < s.heap.objs.size := Heap.lt_size e
  refine mv.heap b u (fun z => ?_) (Heap.get?_push_of_some _ (Heap.get?_push_of_some _ e))
  rcases List.mem_cons.mp z with z | z
  · exact Nat.ne_of_lt b0 z
  · rcases List.mem_cons.mp z with z | z
    · rw [sz] at z; exact Nat.ne_of_lt (Nat.lt_succ_of_lt b0) z
    · exact nomatch z
/-- set(xs), a list of ints -/
theorem set_of_list {l : Addr} {its : Array Value} (ns : List Int) {Q : Value → Shared → Prop} (hh : A.handled = none) (hl : s.heap.IsList l its) (hi : IntsAre its.toList ns) (hb : ns.length + 1 < scanBound)
    (h : ∀ (h' : Heap) (tk c : Nat), SetR w h' s.heap.objs.size (fun j => decide (j ∈ ns)) c → c ≤ ns.length → (∀ b o, s.heap.get? b = some o → h'.get? b = some o) → Q (.ref s.heap.objs.size) { s with heap := h', toks := tk }) :
    wpAny (model P w) A (call (.type "set") [.ref l]) Q E s := by
  have ⟨c, tl, m1⟩ := F.called_set.mro
  have m2 := F.called_set.made
  have m3 := F.called_set.sub
  have m4 := F.called_set.notType
  have m5 := F.called_set.canCreate
  have m6 := F.typeCall_set_1 (.ref l)
  refine wpAny_call (codeAny_of_tree (by
    show wpAny _ _ (callAny (.type "set") _) _ _ _
    refine wpAny_pure ⟨Code.quiet_builtin _ (by decide +kernel), codeAny_builtin F.entry_type_call ?_⟩
    rw [Around.under_plain (weight_type_call_type "set" [.ref l] []) rfl]
    repeat (any_goals (first | assumption | wp_step))
    refine codeAny_mono (code_set_led1 (.ref l) (E := E) (Q₁ := fun obj s₁ => obj = .ref s.heap.objs.size ∧ s₁ = { s with heap := s.heap.push (set00 w) }) ⟨rfl, rfl⟩) fun r s₁ hr => ?_
    cases r with
    | error e => exact hr
    | ok fl =>
      cases fl with
      | ret obj =>
        obtain ⟨rfl, rfl⟩ := hr
        have tyS : Shared.TypeIs { s with heap := s.heap.push (set00 w) } (.ref s.heap.objs.size) "set" := ⟨_, Heap.get?_push_size _ rfl, rfl⟩
        have m7 := F.called_set.init.lookup
        have m8 := F.called_set.init.bind (.ref s.heap.objs.size)
        repeat (any_goals (first | assumption | wp_step))
        refine codeAny_mono (fill_list (A := _) ns (by simp [hh]) hl hi hb (R := wants (fun r t => r = .none ∧ Q (.ref s.heap.objs.size) t) E) fun h' tk c a1 a2 a3 => ⟨rfl, h h' tk c a1 a2 a3⟩) fun r2 s2 hr2 => ?_
        cases r2 with
        | error e => exact hr2
        | ok f2 =>
          cases f2 with
          | ret r =>
            obtain ⟨rfl, q⟩ := hr2
            repeat (any_goals (first | assumption | wp_step))
          | _ => exact hr2.elim
      | _ => exact hr.elim))
end
end DL

set_option Elab.async false
set_option linter.all false
set_option maxRecDepth 100000
set_option maxHeartbeats 4000000
/-! DL31: sorted(set(list of ints)), sorted(rows), max. -/
namespace DL
open PySem PySem.Spec L2
open PyProof.Rows hiding St
def rSetI (K : PySem.W.Frag) (w : World) : List V → Hp → VK → Prop := fun xs H Q => ∃ (l : Addr) (ns : List Int), xs = [.ref l] ∧ SqL K H l (ns.map V.int) ∧ ns.length + 1 < scanBound ∧
  ∀ a c, H a = none → c ≤ ns.length → Q (.ref a) (upd H a (SetO w a (fun j => decide (j ∈ ns)) c))
section
variable {X : Cx}
theorem cr_setI (hc : X.calm = true) : CallR X (.type "set") (rSetI X.K X.w) := by
  intro pins s σ H xs us Q inv r h
  obtain ⟨l, ns, rfl, hs, hb, q⟩ := h
  obtain ⟨its, rv, hl, hz⟩ := inv.list hs
  rw [Vals.ref1 r]
  refine set_of_list ns (inv.ok.hd hc) hl.isList (by simpa using rv.ints) hb fun h' tk c R hc k => ?_
  exact ⟨.ref s.heap.objs.size, upd H s.heap.objs.size (SetO X.w s.heap.objs.size (fun j => decide (j ∈ ns)) c), inv.laid (t' := tk) k (Nat.le_refl _) (setO_new R), rfl, q _ c (inv.hok.fresh (Nat.le_refl _)) hc⟩
/-- ints in order, each once -/
def insI (x : Int) : List Int → List Int
  | [] => [x]
  | y :: r => if x < y then x :: y :: r else if x = y then y :: r else y :: insI x r
def setSort (ns : List Int) : List Int := ns.foldr insI []
theorem insI_mem {x z : Int} : ∀ {l : List Int}, z ∈ insI x l ↔ z = x ∨ z ∈ l
  | [] => by simp [insI]
  | y :: r => by
    unfold insI
    split
    · simp
    · split
      · rename_i e
        subst e
        simp
      · rw [List.mem_cons, insI_mem, List.mem_cons]
        constructor
        · rintro (h | h | h)
          · exact .inr (.inl h)
          · exact .inl h
          · exact .inr (.inr h)
        · rintro (h | h | h)
          · exact .inr (.inl h)
          · exact .inl h
          · exact .inr (.inr h)
theorem insI_lt {x : Int} : ∀ {l : List Int}, l.Pairwise (· < ·) → (insI x l).Pairwise (· < ·)
  | [], _ => by simp [insI]
  | y :: r, h => by
    obtain ⟨h1, h2⟩ := List.pairwise_cons.mp h
    unfold insI
    split
    · rename_i lt
      exact List.pairwise_cons.mpr ⟨fun z m => by
        rcases List.mem_cons.mp m with rfl | m
        · exact lt
        · exact Int.lt_trans lt (h1 z m), h⟩
    · split
      · exact h
      · exact List.pairwise_cons.mpr ⟨fun z m => by
          rcases insI_mem.mp m with rfl | m
          · omega
          · exact h1 z m, insI_lt h2⟩
theorem setSort_mem {x : Int} : ∀ {ns : List Int}, x ∈ setSort ns ↔ x ∈ ns
  | [] => Iff.rfl
  | n :: ns => by
    show x ∈ insI n (setSort ns) ↔ _
    rw [insI_mem, setSort_mem, List.mem_cons]
theorem setSort_lt : ∀ ns : List Int, (setSort ns).Pairwise (· < ·)
  | [] => .nil
  | n :: ns => insI_lt (setSort_lt ns)
theorem lt_ext {xs ys : List Int} (h1 : xs.Pairwise (· < ·)) (h2 : ys.Pairwise (· < ·)) (e : ∀ x, x ∈ xs ↔ x ∈ ys) : xs = ys := by
  have p : xs.Perm ys := (List.perm_ext_iff_of_nodup (h1.imp fun h => by omega) (h2.imp fun h => by omega)).mpr e
  exact List.Perm.eq_of_pairwise (fun x y _ _ a b => by omega) h1 h2 p
/-! ### sorted(set(xs)) -/
def seSetSort (fs : Sl → Om → Out (List D)) : Sl → Om → Out Slot := fun r w => (fs r w).bind fun ds w => match ds with
  | [d] => (match (D.ls? d).bind D.ints? with
    | some ns => if ns.length < 64 then .ok (.o ((setSort ns).map .int)) w else .stuck
    | none => .stuck)
  | _ => .stuck
end
section
variable {X : Cx} {T : Tbl} {W : WX} {e : Expr} {es : List Expr} {fs : Sl → Om → Out (List D)} {p p2 q pos : Pos}
theorem se_sortSet (hc : X.calm = true) (hg : Gl X "sorted") (hm : X.mg "sorted" = none) (hg2 : Gl X "set") (hm2 : X.mg "set" = none) (ha : BA X T W [e] fs)
    (he : starEach [e] X.env = (false, eval e X.env) :: starEach [] X.env := by rfl) (hpl : (backTo q (starEach [] X.env)).any (·.1) = false := by rfl)
    (he2 : starEach [Expr.Call (.Name "set" p2) [e] [] q] X.env = (false, eval (Expr.Call (.Name "set" p2) [e] [] q) X.env) :: starEach [] X.env := by rfl) (hpl2 : (backTo pos (starEach [] X.env)).any (·.1) = false := by rfl) :
    SE X T W (.Call (.Name "sorted" p) [.Call (.Name "set" p2) [e] [] q] [] pos) (seSetSort fs) := by
  obtain ⟨ta, pa, ha⟩ := ha.run
  refine ⟨_, pe_callB (cr_sortedSet hc) hg hm PyProof.Rows.boot_sorted (pa_cons (pe_callTy (cr_setI hc) hg2 hm2 PyProof.Rows.boot_set pa (he := he) (hpl := hpl)) pa_nil he2) (he := he2) (hpl := hpl2), fun G O w r s H Q hK hT R hs => ?_⟩
  unfold seSetSort at hs
  rw [Out.sat_bind] at hs
  refine ha G O w r s H _ hK hT R (hs.mono fun ds w1 q vs H1 R1 t1 p1 => ?_)
  split at q
  · rename_i d
    obtain ⟨v, rfl, h⟩ := breps1 p1
    split at q
    · rename_i ns e1
      obtain ⟨l, e2, e3⟩ := Option.bind_eq_some_iff.mp e1
      split at q
      · rename_i h64
        obtain ⟨a, xs, rfl, h1, h2⟩ := h.ls e2
        rw [ints_some h2 e3] at h1
        refine ⟨a, ns, rfl, by rw [← hK]; exact h1, by unfold scanBound; omega, fun b c hb hc => ?_⟩
        have R2 := R1.new (o := SetO X.w b (fun j => decide (j ∈ ns)) c) hb
        refine ⟨b, _, c, rfl, upd_same, by omega, fun ns' p o1 o2 o3 hp => ?_⟩
        have eq : ns' = setSort ns := lt_ext o1 (setSort_lt ns) fun x => by
          rw [o2, setSort_mem]
          exact decide_eq_true_iff
        have hr : Reps G.K (Fx G O w1) (upd H1 b (SetO X.w b (fun j => decide (j ∈ ns)) c)) (ns'.map V.int) ((setSort ns).map .int) := by
          rw [eq]
          generalize setSort ns = zs
          induction zs with
          | nil => exact .nil
          | cons z zs ih => exact .cons (.int _) ih
        obtain ⟨R3, t3⟩ := R2.1.own (xs := ns'.map V.int) hp
        have t2 := t1.trans R2.2
        exact q _ (p :: O) _ R3 (fun a m => List.mem_cons_of_mem _ m) (own_new t2 hp) (t2.trans (tre_ext (new_ext hp))) ⟨p, _, rfl, List.mem_cons_self .., fun z => R2.1.osome p z hp, upd_same, Reps.tr t3 _ _ hr⟩
      · exact q.elim
    · exact q.elim
  · exact q.elim
end
end DL

set_option Elab.async false
set_option linter.all false
set_option maxRecDepth 100000
set_option maxHeartbeats 4000000
/-! DL32: sorted(rows), max. -/
namespace DL
open PySem PySem.Spec L2
open PyProof.Rows hiding St
section
variable {X : Cx} {pins : List (Addr × Obj)} {σ : L2.St} {H : Hp} {s : Shared}
/-- sorted(rows) -/
def rSortRows0 (K : PySem.W.Frag) : List V → Hp → VK → Prop := fun vs H Q => rSortRows K false vs [.bl false] H Q
theorem cr_sortRows0 : CallR X (.builtin "sorted") (rSortRows0 X.K) := by
  intro pins s σ H vs us Q inv r h
  obtain ⟨a, xs, nss, rfl, _, hs, hr, hne, q⟩ := h
  obtain rfl := Vals.ref1 r
  obtain ⟨its, rv, hl, hz⟩ := inv.list hs
  obtain ⟨tr, t1, t2, t3⟩ := rows_at inv hr rv
  -- each value's own ints
  let k : Value → List Int := fun v => match tr.find? (fun t => decide (t.1 = v)) with
    | some t => t.2.2
    | none => []
  have kt : ∀ t ∈ tr, k t.1 = t.2.2 := fun t m => by
    show (match tr.find? (fun u => decide (u.1 = t.1)) with
      | some t => t.2.2
      | none => []) = t.2.2
    cases e : tr.find? (fun u => decide (u.1 = t.1)) with
    | none =>
      have := List.find?_eq_none.mp e t m
      simp at this
    | some u =>
      have um := List.mem_of_find?_eq_some e
      have ue : u.1 = t.1 := by simpa using List.find?_some e
      have := (t3 u um).2
      rw [ue] at this
      exact this.inj (t3 t m).2
  have hp : ∀ v ∈ its, IsTupI s.heap v (k v) := fun v m => by
    rw [← t1] at m
    obtain ⟨t, tm, rfl⟩ := List.mem_map.mp m
    rw [kt t tm]
    exact (t3 t tm).2
  have hk : ∀ v ∈ its, k v ≠ [] := fun v m => by
    rw [← t1] at m
    obtain ⟨t, tm, rfl⟩ := List.mem_map.mp m
    rw [kt t tm]
    have : (t.2.1, t.2.2) ∈ xs.zip nss := by
      rw [← t2]
      exact List.mem_map.mpr ⟨t, tm, rfl⟩
    exact hne _ (List.of_mem_zip this).2
  refine SrtO.sorted_ord (swo_lexL k) hl.isList (by rw [← rv.length]; exact hz) (fun h2 h₁ a' ha' kk => ?_) fun out h1 h2 => ?_
  · refine tups_sortable (s := { s with heap := h₁ }) (by omega) (fun v hm => (hp v hm).keeps fun b o e _ => (kk b o e).2) hk fun o e => ?_
    have e' := e.symm.trans ha'
    cases e'
    intro c
    exact absurd (Value.type.inj c) (by decide)
  · have pm : out.Perm its := h2.perm
    obtain ⟨tr', p1, p2⟩ := perm_lift pm tr t1
    have mem' : ∀ t ∈ tr', t ∈ tr := fun t m => p1.mem_iff.mp m
    obtain ⟨ep, he'⟩ := PyProof.Rows.sortedAll_at s.heap its out.toArray
    have vals : Vals (tr'.map fun t => t.2.1) out := by
      rw [← p2]
      clear p2 p1 pm
      induction tr' with
      | nil => exact .nil
      | cons t l ih => exact .cons (t3 t (mem' t (List.mem_cons_self ..))).1 (ih fun u m => mem' u (List.mem_cons_of_mem _ m))
    have hlen : (tr'.map fun t => t.2.1).length ≤ sizeLine := by
      rw [List.length_map, p1.length_eq, ← List.length_map (f := fun t : Value × V × List Int => t.1), t1, ← rv.length]
      exact hz
    have ord : DescB false (tr'.map fun t => t.2.2) := by
      have e2 : tr'.map (fun t => t.2.2) = out.map k := by
        rw [← p2, List.map_map]
        exact List.map_congr_left fun t m => (kt t (mem' t m)).symm
      rw [e2]
      unfold DescB
      rw [if_neg Bool.false_ne_true, List.pairwise_map]
      exact h1
    refine ⟨.ref _, upd H (s.heap.objs.size + 1) (.lst (tr'.map fun t => t.2.1)), inv.laid (t' := s.toks) (fun _ _ => PyProof.Rows.sortedAll_old) (Nat.le_succ _) ⟨hlen, out, ep, vals, he'⟩, rfl, ?_⟩
    have := q (tr'.map fun t => (t.2.1, t.2.2)) (s.heap.objs.size + 1) (by rw [← t2]; exact p1.map _) (by rw [List.map_map]; exact ord) (inv.hok.fresh (Nat.le_succ _))
    rw [List.map_map] at this
    exact this
end
section
variable {X : Cx} {T : Tbl} {W : WX} {e : Expr} {es : List Expr} {fs : Sl → Om → Out (List D)} {p kp pos : Pos}
theorem se_sort0 (hg : Gl X "sorted") (hm : X.mg "sorted" = none) (ha : BA X T W [e] fs)
    (he : starEach [e] X.env = (false, eval e X.env) :: starEach [] X.env := by rfl) (hpl : (backTo pos (starEach [] X.env)).any (·.1) = false := by rfl) : SE X T W (.Call (.Name "sorted" p) [e] [] pos) (seSort false fs) := by
  obtain ⟨ta, pa, ha⟩ := ha.run
  refine ⟨_, pe_callB cr_sortRows0 hg hm PyProof.Rows.boot_sorted pa (he := he) (hpl := hpl), fun G O w r s H Q hK hT R hs => ?_⟩
  unfold seSort at hs
  rw [Out.sat_bind] at hs
  refine ha G O w r s H _ hK hT R (hs.mono fun ds w1 q vs H1 R1 t1 p1 => ?_)
  split at q
  · rename_i d
    obtain ⟨v, rfl, h⟩ := breps1 p1
    split at q
    · rename_i nss e1
      obtain ⟨l, e2, e3⟩ := Option.bind_eq_some_iff.mp e1
      split at q
      · exact q.elim
      · rename_i hne
        obtain ⟨a, xs, rfl, h1, h2⟩ := h.ls e2
        rw [mapM_rows e3] at h2
        refine ⟨a, xs, nss, rfl, rfl, by rw [← hK]; exact h1, by rw [← hK]; exact reps_rows h2, fun ns m z => hne (z ▸ m), fun ps p pm ord hp => ?_⟩
        have eq : ps.map (·.2) = sortRows false nss := by
          refine desc_eq ord (sort_desc false nss) ?_
          have e4 : (xs.zip nss).map (·.2) = nss := List.map_snd_zip (by rw [h2.length, List.length_map]; exact Nat.le_refl _)
          have := pm.map (·.2)
          rw [e4] at this
          exact this.trans (List.mergeSort_perm ..).symm
        have hr : Reps G.K (Fx G O w1) H1 (ps.map (·.1)) ((sortRows false nss).map rowD) := by
          rw [← eq]
          exact reps_of fun q m => reps_zip h2 q (pm.mem_iff.mp m)
        obtain ⟨R2, t2⟩ := R1.own (xs := ps.map (·.1)) hp
        exact q _ (p :: O) _ R2 (fun a m => List.mem_cons_of_mem _ m) (own_new t1 hp) (t1.trans (tre_ext (new_ext hp))) ⟨p, _, rfl, List.mem_cons_self .., fun z => R1.osome p z hp, upd_same, Reps.tr t2 _ _ hr⟩
    · exact q.elim
  · exact q.elim

/-! ### max -/
def maxI (x : Int) (xs : List Int) : Int := xs.foldl max x
theorem maxOf_max (x : Int) (xs : List Int) : PySem.W.maxOf x xs = maxI x xs := by
  unfold PySem.W.maxOf maxI
  congr 1
  funext a y
  show (if decide (a < y) = true then y else a) = max a y
  by_cases h : a < y
  · rw [if_pos (decide_eq_true h)]
    omega
  · rw [if_neg (fun z => h (of_decide_eq_true z))]
    omega
theorem holds_ints {h : Heap} : ∀ {vs : List Value} {ns : List Int}, IntsAre vs ns → PySem.W.HoldAll h vs ns
  | _, _, .nil => .nil
  | _, _, .cons n t r => .cons ⟨_, .int n t⟩ (holds_ints r)
theorem holds_int {h : Heap} {v : Value} {n : Int} (p : PySem.W.Holds h v n) : ∃ t, v = .int n t := by
  obtain ⟨as, r⟩ := p
  cases r with
  | int i t => exact ⟨t, rfl⟩
def rMaxS (K : PySem.W.Frag) : List V → Hp → VK → Prop := fun vs H Q => ∃ (a : Addr) (n : Int) (ns : List Int), vs = [.ref a] ∧ (SqL K H a ((n :: ns).map V.int) ∨ SqT K H a ((n :: ns).map V.int)) ∧ Q (.int (maxI n ns)) H
theorem cr_maxS (hc : X.calm = true) (hu : X.A.units + 1 < cLine) : CallR X (.builtin "max") (rMaxS X.K) := by
  intro pins s σ H vs us Q inv r h
  obtain ⟨a, n, ns, rfl, hs, q⟩ := h
  rw [Vals.ref1 r]
  rcases hs with hs | hs
  · obtain ⟨its, rv, hl, _⟩ := inv.list hs
    refine PySem.W.max_list_datum (inv.ok.hd hc) hl.isList (x := n) (xs := ns) (by simpa using holds_ints rv.ints) hu fun i v h' tk e hv k => ?_
    obtain ⟨t, rfl⟩ := holds_int hv
    rw [maxOf_max]
    exact ⟨.int _, H, inv.kept k, ⟨_, rfl⟩, q⟩
  · obtain ⟨its, rv, hl, _⟩ := inv.tuple hs
    refine PySem.W.max_tuple_datum (inv.ok.hd hc) hl (x := n) (xs := ns) (by simpa using holds_ints rv.ints) hu fun i v h' tk e hv k => ?_
    obtain ⟨t, rfl⟩ := holds_int hv
    rw [maxOf_max]
    exact ⟨.int _, H, inv.kept k, ⟨_, rfl⟩, q⟩
def cMax : List D → Om → Out D
  | [d], w => match (D.items d).bind D.ints? with
    | some (n :: ns) => .ok (.int (maxI n ns)) w
    | _ => .stuck
  | _, _ => .stuck
theorem cd_max : CalD X T W (rMaxS X.K) cMax := by
  intro G O w r s H vs ds Q hK hT R hv hs
  unfold cMax at hs
  split at hs
  · rename_i d
    obtain ⟨v, rfl, h⟩ := breps1 hv
    split at hs
    · rename_i n ns e
      obtain ⟨l, e1, e2⟩ := Option.bind_eq_some_iff.mp e
      obtain ⟨a, xs, rfl, h1, h2⟩ := h.items e1
      rw [ints_some h2 e2] at h1
      rw [← hK]
      exact ⟨a, n, ns, rfl, h1, hs _ H R (TrE.refl _ _ _) (.int _)⟩
    · exact hs.elim
  · exact hs.elim
theorem dx_max (hc : X.calm = true) (hu : X.A.units + 1 < cLine) (hg : Gl X "max") (hm : X.mg "max" = none) (ha : BA X T W (e :: es) fs)
    (he : starEach (e :: es) X.env = (false, eval e X.env) :: starEach es X.env := by rfl) (hpl : (backTo pos (starEach es X.env)).any (·.1) = false := by rfl) : DE X T W (.Call (.Name "max" p) (e :: es) [] pos) (eB fs cMax) :=
  bx_cal (te := fun _ _ _ _ => True) ha (fun pa => pe_callB (cr_maxS hc hu) hg hm (by decide +kernel) pa (he := he) (hpl := hpl)) cd_max
end
end DL

set_option Elab.async false
set_option linter.all false
set_option maxRecDepth 100000
set_option maxHeartbeats 4000000
/-! DL33: try with several clauses, `as` or not. -/
namespace DL
open PySem PySem.Spec L2
open PyProof.Rows hiding St
/-- the ends behind a clause: its name is gone -/
def offE : Option Nat → Ends → Ends
  | none, D => D
  | some i, D => { nx := fun σ' H' => D.nx (σ'.set i none) H', rt := D.rt, bk := fun σ' H' => D.bk (σ'.set i none) H', ct := fun σ' H' => D.ct (σ'.set i none) H' }
def onE : Option Nat → Addr → L2.St → L2.St
  | none, _, σ => σ
  | some i, a, σ => σ.set i (some (.ref a))
abbrev Clause := Value × Option Nat × (Addr → Value → Option Addr → TS)
def wCl (K : PySem.W.Frag) (Wo : WX) (D : Ends) : List Clause → WX
  | [] => Wo
  | (c, i, ts) :: r => fun cls d σ H => ∃ b, PySem.W.exmOne K cls c = some b ∧ (b = true → ∀ a, H a = none → ts a cls d (offE i D) (onE i a σ) H) ∧ (b = false → wCl K Wo D r cls d σ H)
inductive Cls? (X : Cx) : List ExceptHandler → List Clause → Prop
  | nil : Cls? X [] []
  | pl {x : Str} {c : Value} {ts : Addr → Value → Option Addr → TS} {b0 : Stmt} {suite : List Stmt} {np q : Pos} {hds : List ExceptHandler} {l : List Clause} (hc : Names X x c)
      (hu : ∀ (a : Addr) (oe : Obj) (cls : Value) (d : Option Addr) (pn : List (Addr × Obj)), Zc cls d oe → (∃ vs, oe.data = .fields vs) → PSs (X.suite a ((a, oe) :: pn)) (b0 :: suite) (ts a cls d)) (r : Cls? X hds l) :
      Cls? X (.ExceptHandler (some (.Name x np)) none (b0 :: suite) q :: hds) ((c, none, ts) :: l)
  | nm {x n : Str} {i : Nat} {c : Value} {ts : Addr → Value → Option Addr → TS} {b0 : Stmt} {suite : List Stmt} {np q : Pos} {hds : List ExceptHandler} {l : List Clause} (hc : Names X x c) (hi : X.N[i]? = some n) (hk : X.env.kindOf n = some .local)
      (hu : ∀ (a : Addr) (oe : Obj) (cls : Value) (d : Option Addr) (pn : List (Addr × Obj)), Zc cls d oe → (∃ vs, oe.data = .fields vs) → PSs (X.suite a ((a, oe) :: pn)) (b0 :: suite) (ts a cls d)) (r : Cls? X hds l) :
      Cls? X (.ExceptHandler (some (.Name x np)) (some n) (b0 :: suite) q :: hds) ((c, some i, ts) :: l)
section
variable {X : Cx} {body : List Stmt} {h0 : ExceptHandler} {hds : List ExceptHandler} {l : List Clause} {pos : Pos} {tb : WX → TS} {Wo : WX}
theorem ps_clauses (hs : X.stack = X.env :: X.outer) (hf : X.env.frame = some X.env.locals) (hN : X.N.Nodup) (tk : Takes X Wo)
    (hb : ∀ (W' : WX) (pn : List (Addr × Obj)) (xe : Value → Shared → Prop), Takes (X.tr pn xe) W' → PassesOwn (model X.prog X.w) X.A X.env xe → PSs (X.tr pn xe) body (tb W')) (hh : Cls? X (h0 :: hds) l) :
    PS X (.Try body (h0 :: hds) [] [] pos) (fun D σ H => tb (wCl X.K Wo D l) D σ H) := by
  refine ⟨fun pins s σ H D inv want => ?_⟩
  have ok := inv.ok
  have fr : X.A.frames = some (X.env :: X.outer) := ok.frames.trans (by rw [hs])
  let after : Value → Shared → Prop := fun e s1 => wpAny (model X.prog X.w) X.A (noteFrame e X.env) (fun _ s2 => wpAny (model X.prog X.w) X.A (setFlight e none) (fun _ s3 => wpAny (model X.prog X.w) X.A (handleBy e X.env (h0 :: hds)) (SP X pins D) X.xe s3) X.xe s2) X.xe s1
  refine wpAny_Try_except (wpAny_mono ((hb (wCl X.K Wo D l) (X.pn ++ pins) after ?lands PassesOwn.looking).run [] s σ H D (inv.toTry _) want) (fun f s1 got => ?_) fun e s1 he => he)
  case lands =>
    rintro _ t ⟨a, B, sI, pins2, σ2, H2, cls, d, rfl, J0, nb, up, sky, na, os, ag, w⟩
    have J : Inv X pins σ2 H2 sI := J0.ofTry ok
    rw [hs] at sky
    show wpAny (model X.prog X.w) X.A (noteFrame (.ref a) X.env) _ _ _
    refine Sky.land Zc.steady fr hf sky fun h3 fly up3 => ?_
    have J3 : Inv X pins σ2 H2 { t with heap := h3 } := J.landed nb fly.1 (up.trans up3) os ag
    obtain ⟨oe, vs, ge, ze, de⟩ := fly.there
    have out : a ∉ frs (X.env :: X.outer) := fun m => by
      obtain ⟨_, o2, e2, k2⟩ := fly.2.2.1.mem m
      exact k2 _ ((Option.some.inj (ge.symm.trans e2)) ▸ de)
    have aL : a ≠ X.env.locals := fun z => out (List.mem_filterMap.mpr ⟨X.env, List.mem_cons_self, hf.trans (by rw [z])⟩)
    have aF : a ∉ X.fs := fun m => by
      obtain ⟨e1, m1, m2⟩ := List.mem_filterMap.mp m
      exact out (List.mem_filterMap.mpr ⟨e1, List.mem_cons_of_mem _ m1, m2⟩)
    have S3 := J3.suite ge de na aL aF
    have looks : PySem.W.Looks (model X.prog X.w) h3 (typeOf (.ref a)) cls := fun _ _ _ _ k q => wpAny_typeOf_ref (k _ _ ge) (by rw [ze.1]; exact q)
    have named : ∀ {x : Str} {c : Value} {np : Pos} {Q E : Value → Shared → Prop}, Names X x c → Q c { t with heap := h3 } → wpAny (model X.prog X.w) (X.A.mark (some (.ref a))) (eval (.Name x np) X.env) Q E { t with heap := h3 } := by
      rintro x c np Q E ⟨g1, g2, g3 | ⟨g3, g4, g5⟩⟩ q
      · exact ld_glob (X := X.suite a ((a, oe) :: (X.pn ++ pins))) S3 g1 g3 q g2
      · exact ld_blt (X := X.suite a ((a, oe) :: (X.pn ++ pins))) S3 g1 g3 g4 q g5 g2
    suffices go : ∀ {hs2 : List ExceptHandler} {l2 : List Clause}, Cls? X hs2 l2 → wCl X.K Wo D l2 cls d σ2 H2 → wpAny (model X.prog X.w) X.A (handleBy (.ref a) X.env hs2) (SP X pins D) X.xe { t with heap := h3 } from go hh w
    intro hs2 l2 all
    induction all with
    | nil =>
      intro w
      have away : wpAny (model X.prog X.w) X.A (setFlight (.ref a) X.env.frame) (fun _ s4 => wpAny (model X.prog X.w) X.A (throw (.ref a) : Sem Flow) (SP X pins D) X.xe s4) X.xe { t with heap := h3 } :=
        hf ▸ HandSPX.setFlight_upZ fly fun h4 hh4 up4 => wpAny_throw (tk _ _ ⟨a, B, sI, pins, σ2, H2, cls, d, rfl, J, nb, (up.trans up3).trans up4, .inr (.inr (hs ▸ hh4)), na, os, ag, w⟩)
      have ⟨_, _, _, oe1, vs1, T1, oT1, ts1, x1, x2, x3, x4, x5⟩ := fly
      refine wpAny_handleBy_nil ?_
      unfold PySem.passOn
      refine wpAny_bind (wpAny_field x1 x3 x4 ?_)
      rw [if_neg (by simp)]
      first
        | exact wpAny_bind (wpAny_pure (wpAny_bind away))
        | exact wpAny_bind away
    | @pl x c ts b0 suite np q hds1 l1 hc hu r ih =>
      rintro ⟨b, eb, yes, no⟩
      refine wpAny_handleBy_cons (codeAny_handlers_test (named hc ((PySem.W.exm_one J3.kIn looks eb).here ?_))) nofun
      cases b with
      | false => exact ih (no rfl)
      | true =>
        refine codeAny_handlers_suite (HandSPX.lands_againZ fly fun h4 fl4 up4 => ?_)
        obtain ⟨o4, v4, g4, z4, d4⟩ := fl4.there
        have J4 : Inv X pins σ2 H2 { t with heap := h4 } := J.landed nb fl4.1 ((up.trans up3).trans up4) os ag
        have S4 := J4.suite g4 d4 na aL aF
        refine wpAny_mono ((hu a o4 cls d (X.pn ++ pins) z4 ⟨_, d4⟩).run [] _ _ H2 _ S4 (yes rfl a na)) (fun f s6 got => ?_) fun _ _ z => z.elim
        cases f with
        | ret u =>
          obtain ⟨v6, σ6, H6, S6, y⟩ := got
          exact ⟨v6, σ6, H6, S6.unsuite ok, y⟩
        | next =>
          obtain ⟨σ6, H6, S6, y⟩ := got
          exact ⟨σ6, H6, S6.unsuite ok, y⟩
        | brk =>
          obtain ⟨σ6, H6, S6, y⟩ := got
          exact ⟨σ6, H6, S6.unsuite ok, y⟩
        | cont =>
          obtain ⟨σ6, H6, S6, y⟩ := got
          exact ⟨σ6, H6, S6.unsuite ok, y⟩
    | @nm x n i c ts b0 suite np q hds1 l1 hc hi hk hu r ih =>
      rintro ⟨b, eb, yes, no⟩
      refine wpAny_handleBy_cons (codeAny_handlers_test (named hc ((PySem.W.exm_one J3.kIn looks eb).here ?_))) nofun
      cases b with
      | false => exact ih (no rfl)
      | true =>
        refine codeAny_handlers_suite_as (HandSPX.lands_againZ fly fun h4 fl4 up4 => ?_)
        obtain ⟨o4, v4, g4, z4, d4⟩ := fl4.there
        have J4 : Inv X pins σ2 H2 { t with heap := h4 } := J.landed nb fl4.1 ((up.trans up3).trans up4) os ag
        have S4 := J4.suite g4 d4 na aL aF
        refine store_ok (X := X.suite a ((a, o4) :: (X.pn ++ pins))) (v := .ref a) S4 hN hi (.inl hk) rfl (fun s5 S5 => ?_) (.inr hk)
        refine wpAny_mono ((hu a o4 cls d (X.pn ++ pins) z4 ⟨_, d4⟩).run [] s5 _ H2 _ S5 (yes rfl a na)) (fun f s6 got => ?_) fun _ _ z => z.elim
        cases f with
        | ret u =>
          obtain ⟨v6, σ6, H6, S6, y, y2⟩ := got
          exact gone_ok (S6.unsuite ok) hN hi hk fun s7 J7 => ⟨v6, _, H6, J7, y, y2⟩
        | next =>
          obtain ⟨σ6, H6, S6, y⟩ := got
          exact gone_ok (S6.unsuite ok) hN hi hk fun s7 J7 => ⟨_, H6, J7, y⟩
        | brk =>
          obtain ⟨σ6, H6, S6, y⟩ := got
          exact gone_ok (S6.unsuite ok) hN hi hk fun s7 J7 => ⟨_, H6, J7, y⟩
        | cont =>
          obtain ⟨σ6, H6, S6, y⟩ := got
          exact gone_ok (S6.unsuite ok) hN hi hk fun s7 J7 => ⟨_, H6, J7, y⟩
  cases f with
  | ret u =>
    obtain ⟨v, σ2, H2, J2, y⟩ := got
    exact ⟨v, σ2, H2, J2.ofTry ok, y⟩
  | next =>
    obtain ⟨σ2, H2, J2, y⟩ := got
    exact wpAny_execs_nil ⟨σ2, H2, J2.ofTry ok, y⟩
  | brk =>
    obtain ⟨σ2, H2, J2, y⟩ := got
    exact ⟨σ2, H2, J2.ofTry ok, y⟩
  | cont =>
    obtain ⟨σ2, H2, J2, y⟩ := got
    exact ⟨σ2, H2, J2.ofTry ok, y⟩
end
/-! ### the meaning -/
abbrev HD := Option Nat × (Str → Option Bool) × (Sl → Om → Out Res)
def offS : Option Nat → Sl → Sl
  | none, r => r
  | some i, r => r.set i .no
def offR : Option Nat → Res → Res
  | none, res => res
  | some i, res => resNo i res
def hands : List HD → Exn → Sl → Om → Out Res
  | [], e, r, w => .exc e r w
  | (i, exm, gs) :: l, e, r, w => match exm e.cls with
    | some true => ((gs (offS i r) w).calm).bind fun res w => .ok (offR i res) w
    | some false => hands l e r w
    | none => .stuck
def sTryM (l : List HD) (g : Sl → Om → Out Res) : Sl → Om → Out Res := fun r w => (g r w).catch (hands l)
section
variable {X : Cx} {T : Tbl} {W : WX}
inductive HdsD (X : Cx) (T : Tbl) : List ExceptHandler → List HD → Prop
  | nil : HdsD X T [] []
  | pl {x : Str} {c : Value} {exm : Str → Option Bool} {gs : Sl → Om → Out Res} {b0 : Stmt} {suite : List Stmt} {np q : Pos} {hds : List ExceptHandler} {l : List HD} (hc : Names X x c) (hx : ExmOk X c exm)
      (hu : ∀ (a : Addr) (pn : List (Addr × Obj)), DSs (X.suite a pn) T WNo (b0 :: suite) gs) (r : HdsD X T hds l) : HdsD X T (.ExceptHandler (some (.Name x np)) none (b0 :: suite) q :: hds) ((none, exm, gs) :: l)
  | nm {x n : Str} {i : Nat} {c : Value} {exm : Str → Option Bool} {gs : Sl → Om → Out Res} {b0 : Stmt} {suite : List Stmt} {np q : Pos} {hds : List ExceptHandler} {l : List HD} (hc : Names X x c) (hx : ExmOk X c exm)
      (hu : ∀ (a : Addr) (pn : List (Addr × Obj)), DSs (X.suite a pn) T WNo (b0 :: suite) gs) (r : HdsD X T hds l) (hi : X.N[i]? = some n := by rfl) (hk : X.env.kindOf n = some .local := by rfl) : HdsD X T (.ExceptHandler (some (.Name x np)) (some n) (b0 :: suite) q :: hds) ((some i, exm, gs) :: l)
theorem OkS.offE {G : Gc} {O : List Addr} {w : Om} {H : Hp} {D : Ends} {i : Option Nat} {res : Res} {w' : Om} (h : OkS G O w H D (offR i res) w') : OkS G O w H (offE i D) res w' := by
  cases i with
  | none => exact h
  | some i => exact OkS.noAt h
def tsOf {X : Cx} {gs : Sl → Om → Out Res} {suite : List Stmt} (hu : ∀ (a : Addr) (pn : List (Addr × Obj)), DSs (X.suite a pn) T WNo suite gs) : Addr → Value → Option Addr → TS := fun a _ _ D σ H => ∀ pn, Classical.choose (hu a pn).run D σ H
theorem tsOf_ps {gs : Sl → Om → Out Res} {suite : List Stmt} (hu : ∀ (a : Addr) (pn : List (Addr × Obj)), DSs (X.suite a pn) T WNo suite gs) (a : Addr) (oe : Obj) (cls : Value) (d : Option Addr) (pn : List (Addr × Obj)) : PSs (X.suite a ((a, oe) :: pn)) suite (tsOf hu a cls d) :=
  ⟨fun pins s σ H D inv k => (Classical.choose_spec (hu a ((a, oe) :: pn)).run).1.run pins s σ H D inv (k _)⟩
theorem tsOf_ok {G : Gc} {O O' : List Addr} {w w' : Om} {r : Sl} {s : L2.St} {H H' : Hp} {D : Ends} {i : Option Nat} {cls : Value} {od : Option Addr} {gs : Sl → Om → Out Res} {suite : List Stmt} (hu : ∀ (a : Addr) (pn : List (Addr × Obj)), DSs (X.suite a pn) T WNo suite gs) (a : Addr)
    (hK : G.K = X.K) (hT : G.T = T) (R : Rel G O' w' r s H') (t : Tr (Fx G O w) H (Fx G O' w') H') (q : (((gs r w').calm).bind fun res w => .ok (offR i res) w).Sat (OkS G O w H D) (OkX X G W)) : tsOf hu a cls od (offE i D) s H' := by
  intro pn
  rw [Out.sat_bind] at q
  refine (Classical.choose_spec (hu a pn).run).2 G O' w' _ _ H' _ hK hT R (Out.sat_calm ((Out.Sat.noexc q).mono fun res w2 q3 => OkS.offE ?_))
  have q4 : (Out.ok (offR i res) w2 : Out Res).Sat (OkS G O w H D) (OkX X G W) := q3
  exact OkS.trans t q4
theorem HdsD.down {hds : List ExceptHandler} {l : List HD} (h : HdsD X T hds l) : ∃ lp : List Clause, Cls? X hds lp ∧ ∀ (G : Gc) (O O' : List Addr) (w w' : Om) (r' : Sl) (s' : L2.St) (H H' : Hp) (D : Ends) (e : Exn) (cls : Value) (od : Option Addr), G.K = X.K → G.T = T → Rel G O' w' r' s' H' →
    Tr (Fx G O w) H (Fx G O' w') H' → XRep X.K X.mg (Fx G O' w') H' e cls od → (hands l e r' w').Sat (OkS G O w H D) (OkX X G W) → wCl X.K W D lp cls od s' H' := by
  induction h with
  | nil => exact ⟨[], .nil, fun G O O' w w' r' s' H H' D e cls od hK hT R t x q => q cls od O' s' H' R x⟩
  | pl hc hx hu r ih =>
    obtain ⟨lp, h1, h2⟩ := ih
    refine ⟨_, .pl hc (fun a oe cls d pn _ _ => tsOf_ps hu a oe cls d pn) h1, fun G O O' w w' r' s' H H' D e cls od hK hT R t x q => ?_⟩
    obtain ⟨C, e1, e2, e3⟩ := id x
    subst e2
    unfold hands at q
    split at q
    · rename_i ee
      exact ⟨true, hx _ _ _ e1 ee, fun _ a ha => tsOf_ok (i := none) hu a hK hT R t q, nofun⟩
    · rename_i ee
      exact ⟨false, hx _ _ _ e1 ee, nofun, fun _ => h2 G O O' w w' r' s' H H' D e _ od hK hT R t x q⟩
    · exact q.elim
  | @nm _ _ i _ _ _ _ _ _ _ _ _ hc hx hu r hi hk ih =>
    obtain ⟨lp, h1, h2⟩ := ih
    refine ⟨_, .nm hc hi hk (fun a oe cls d pn _ _ => tsOf_ps hu a oe cls d pn) h1, fun G O O' w w' r' s' H H' D e cls od hK hT R t x q => ?_⟩
    obtain ⟨C, e1, e2, e3⟩ := id x
    subst e2
    unfold hands at q
    split at q
    · rename_i ee
      exact ⟨true, hx _ _ _ e1 ee, fun _ a ha => tsOf_ok (i := some i) hu a hK hT (R.set_no i) t q, nofun⟩
    · rename_i ee
      exact ⟨false, hx _ _ _ e1 ee, nofun, fun _ => h2 G O O' w w' r' s' H H' D e _ od hK hT R t x q⟩
    · exact q.elim
theorem ds_tryM {l : List HD} {body : List Stmt} {h0 : ExceptHandler} {hds : List ExceptHandler} {g : Sl → Om → Out Res} {pos : Pos} (hs : X.stack = X.env :: X.outer) (hf : X.env.frame = some X.env.locals) (hN : X.N.Nodup) (tk : Takes X W)
    (hb : ∀ (W' : WX) (pn : List (Addr × Obj)) (xe : Value → Shared → Prop), Takes (X.tr pn xe) W' → PassesOwn (model X.prog X.w) X.A X.env xe → DSs (X.tr pn xe) T W' body g) (hh : HdsD X T (h0 :: hds) l) :
    DS X T W (.Try body (h0 :: hds) [] [] pos) (sTryM l g) := by
  obtain ⟨lp, h1, h2⟩ := hh.down (W := W)
  let tb : WX → TS := fun W' D σ H => ∀ (pn : List (Addr × Obj)) (xe : Value → Shared → Prop) (h1 : Takes (X.tr pn xe) W') (h2 : PassesOwn (model X.prog X.w) X.A X.env xe), Classical.choose (hb W' pn xe h1 h2).run D σ H
  refine ⟨_, ps_clauses hs hf hN tk (tb := tb) (fun W' pn xe h1 h2 => ⟨fun pins s σ H D inv k => (Classical.choose_spec (hb W' pn xe h1 h2).run).1.run pins s σ H D inv (k pn xe h1 h2)⟩) h1, fun G O w r s H D hK hT R hq => ?_⟩
  intro pn xe k1 k2
  refine (Classical.choose_spec (hb _ pn xe k1 k2).run).2 (rb G O w H) O w r s H D hK hT R.rebase ?_
  unfold sTryM at hq
  rw [Out.sat_catch] at hq
  refine hq.imp (fun res w' q => OkS.unbase R.toWor q) (fun e r' w' q cls od O' s' H' R' p => ?_)
  obtain ⟨R2, t2⟩ := Rel.unbase R.toWor R'
  exact h2 G O O' w w' r' s' H H' D e cls od hK hT R2 t2 p q
end
end DL

set_option Elab.async false
set_option linter.all false
set_option maxRecDepth 100000
set_option maxHeartbeats 4000000
/-! DL34: [..] * n and a + b, kept as a name's own. -/
namespace DL
open PySem PySem.Spec L2
open PyProof.Rows hiding St
def oMul : D → D → Om → Out Slot
  | .lst a, .int k, w => if 0 ≤ k ∧ k < 2 ^ 63 ∧ a.length * k.toNat ≤ sizeLine then .ok (.o (List.replicate k.toNat a).flatten) w else .stuck
  | _, _, _ => .stuck
def oAdd : D → D → Om → Out Slot
  | .lst a, .lst b, w => if a.length + b.length ≤ sizeLine then .ok (.o (a ++ b)) w else .stuck
  | _, _, _ => .stuck
def se2 (fa fb : Sl → Om → Out D) (op : D → D → Om → Out Slot) : Sl → Om → Out Slot := fun r w => (fa r w).bind fun x w => (fb r w).bind fun y w => op x y w
section
variable {X : Cx} {T : Tbl} {W : WX} {e a b : Expr} {fa fb : Sl → Om → Out D} {pos : Pos}
/-- what an operation that lays a new list answers -/
def OpO (X : Cx) (T : Tbl) (W : WX) (rr : R2) (op : D → D → Om → Out Slot) : Prop :=
  ∀ (G : Gc) (O : List Addr) (w : Om) (r : Sl) (s : L2.St) (H : Hp) (x y : V) (dx dy : D) (Q : VK), G.K = X.K → G.T = T → Rel G O w r s H → BRep G O w H x dx → BRep G O w H y dy →
    (op dx dy w).Sat (fun d w' => ∀ v O' H', Rel G O' w' r s H' → (∀ a ∈ O, a ∈ O') → (∀ a ∈ O', a ∈ O ∨ H a = none ∨ Fx G O w a) → TrE G w H w' H' → SRep G O O' w' H' v d → Q v H') (OkX X G W) → rr x y H Q
theorem oo_mul : OpO X T W rMulD oMul := by
  intro G O w r s H x y dx dy Q hK hT R px py hs
  unfold oMul at hs
  split at hs
  · split at hs
    · rename_i hc
      obtain ⟨a, xs, rfl, h1, h2⟩ := px.list
      rw [py.int]
      obtain ⟨c1, c2, c3⟩ := hc
      refine .inr ⟨a, _, xs, rfl, rfl, h1, by omega, c2, by rw [h2.length]; exact c3, fun p hp => ?_⟩
      obtain ⟨R2, t2⟩ := R.own (xs := _) hp
      exact hs _ (p :: O) _ R2 (fun a m => List.mem_cons_of_mem _ m) (own_new (TrE.refl _ _ _) hp) (tre_ext (new_ext hp)) ⟨p, _, rfl, List.mem_cons_self .., fun z => R.osome p z hp, upd_same, Reps.tr t2 _ _ (h2.rep _)⟩
    · exact hs.elim
  · exact hs.elim
theorem oo_add : OpO X T W (rAddD X.K) oAdd := by
  intro G O w r s H x y dx dy Q hK hT R px py hs
  unfold oAdd at hs
  split at hs
  · split at hs
    · rename_i hl
      obtain ⟨a, xs, rfl, h1, h2⟩ := px.list
      obtain ⟨b, ys, rfl, k1, k2⟩ := py.list
      refine .inr (.inr (.inr ⟨a, b, xs, ys, rfl, rfl, h1, k1, by rw [h2.length, k2.length]; exact hl, fun p hp => ?_⟩))
      obtain ⟨R2, t2⟩ := R.own (xs := xs ++ ys) hp
      exact hs _ (p :: O) _ R2 (fun a m => List.mem_cons_of_mem _ m) (own_new (TrE.refl _ _ _) hp) (tre_ext (new_ext hp)) ⟨p, _, rfl, List.mem_cons_self .., fun z => R.osome p z hp, upd_same, Reps.tr t2 _ _ (h2.append k2)⟩
    · exact hs.elim
  · exact hs.elim
theorem new_back {G : Gc} {O : List Addr} {w w2 : Om} {H H2 : Hp} (t : TrE G w H w2 H2) {a : Addr} (h : a ∈ O ∨ H2 a = none ∨ Fx G O w2 a) : a ∈ O ∨ H a = none ∨ Fx G O w a := by
  cases q : H a with
  | none => exact .inr (.inl rfl)
  | some o =>
    by_cases hw : w a = none
    · by_cases hT : a ∈ G.T
      · exact .inr (.inr (.inr (.inr (.inr hT))))
      · obtain ⟨h1, h2⟩ := t a o q hw hT
        rcases h with h | h | h
        · exact .inl h
        · rw [h1] at h; cases h
        · rcases h with h | h | h | h
          · exact .inl h
          · exact absurd h2 h
          · exact .inr (.inr (.inr (.inr (.inl h))))
          · exact absurd h hT
    · exact .inr (.inr (.inr (.inl hw)))
theorem se_2 {te : TE → TE → TE} {rr : R2} {op : D → D → Om → Out Slot} (ha : BE X T W a fa) (hb : BE X T W b fb) (hp : ∀ {ta tb : TE}, PE X a ta → PE X b tb → PE X e (tOp rr ta tb)) (ho : OpO X T W rr op) : SE X T W e (se2 fa fb op) := by
  obtain ⟨ta, pa, ha⟩ := ha.run
  obtain ⟨tb, pb, hb⟩ := hb.run
  refine ⟨_, hp pa pb, fun G O w r s H Q hK hT R hs => ?_⟩
  unfold se2 at hs
  rw [Out.sat_bind] at hs
  refine ha G O w r s H _ hK hT R (hs.mono fun dx w1 hs1 x H1 R1 t1 p1 => ?_)
  rw [Out.sat_bind] at hs1
  refine hb G O w1 r s H1 _ hK hT R1 (hs1.mono fun dy w2 hs2 y H2 R2 t2 p2 => ?_)
  have t12 := t1.trans t2
  exact ho G O w2 r s H2 x y dx dy Q hK hT R2 (p1.tr R1.toWor t2) p2 (hs2.mono fun d w3 q v O3 H3 R3 m1 m2 t3 p3 => q v O3 H3 R3 m1 (fun a m => new_back t12 (m2 a m)) (t12.trans t3) p3)
theorem se_mul (ha : BE X T W a fa) (hb : BE X T W b fb) : SE X T W (.BinOp a .Mult b pos) (se2 fa fb oMul) := se_2 (te := fun _ t => t) ha hb (fun p q => pe_op op_mulD p q) oo_mul
theorem se_add (ha : BE X T W a fa) (hb : BE X T W b fb) : SE X T W (.BinOp a .Add b pos) (se2 fa fb oAdd) := se_2 (te := fun _ t => t) ha hb (fun p q => pe_op op_addD p q) oo_add
end
end DL

set_option Elab.async false
set_option linter.all false
set_option maxRecDepth 100000
set_option maxHeartbeats 4000000
/-! DL35: closures handed to a def: their promise, their call. -/
namespace DL
open PySem PySem.Spec L2
open PyProof.Rows hiding St
abbrev cloNF (q : Str) (params : Arguments) (scope : Scope) (cl : List (Str × Addr)) (c' : Addr) : NdefX.NF := ⟨"<lambda>", q, params, [], scope, cl, c'⟩
/-- a lambda's meaning, the captured values behind the arguments -/
def fnE (n : Nat) (g : Sl → Om → Out D) : List D → Om → Out D := fun ds w => g (slots0 n ds) w
section
variable {P : Program} {wd : World} {K : PySem.W.Frag} {mg : Str → Option Value} {base : Heap} {T : Tbl} {k : Nat} {q : Str} {params : Arguments} {body : Expr} {scope : Scope} {cl : List (Str × Addr)} {xs fr N : List Str} {g : Sl → Om → Out D}
theorem slots_clo {K : PySem.W.Frag} {F : Addr → Prop} {H : Hp} {vs ws : List V} {ds : List D} (h : Reps K F H (vs ++ ws) ds) : Slots K F H [] (NdefX.startF N vs (ws.map some)) (slots0 N.length ds) := by
  have e : NdefX.startF N vs (ws.map some) = (vs ++ ws).map some ++ List.replicate (N.length - (vs ++ ws).length) none := by
    unfold NdefX.startF
    rw [List.map_append, List.length_map, List.length_append, List.append_assoc, Nat.sub_sub]
  rw [e]
  unfold slots0
  rw [h.length]
  exact slots_ps (slots_no _) h
/-- the context of a closure's body -/
abbrev CxC (P : Program) (wd : World) (K : PySem.W.Frag) (mg : Str → Option Value) (base : Heap) (N : List Str) (q : Str) (params : Arguments) (scope : Scope) (cl : List (Str × Addr)) (c' f : Addr) (A : Around) (outer : List Env) (s : Shared) (H : Hp) (E : XK) : Cx :=
  NdefX.ncx (L2.CX P wd) P wd K mg base N (cloNF q params scope cl c') f A outer s H E
/-- what a closure promises, whoever calls it: the captured values ws stand in its cells -/
structure CloOk (P : Program) (wd : World) (K : PySem.W.Frag) (mg : Str → Option Value) (base : Heap) (T : Tbl) (k : Nat) (q : Str) (params : Arguments) (body : Expr) (scope : Scope) (cl : List (Str × Addr)) (xs fr : List Str) (m : List D → Om → Out D) : Prop where
  run : ∀ (A : Around) (outer : List Env) (s : Shared) (H : Hp) (F : Addr → Prop) (f : Addr) (us : List Value) (vs ws : List V) (Q : VK) (E : XK), Room k A → Env0 P wd K mg base A outer s H → LamAt q params body scope cl [] F H f → NdefX.CellsAt cl fr (ws.map some) s.heap H → Vals vs us → vs.length = xs.length →
    spW K mg T (xs.length + fr.length) m (vs ++ ws) H Q E → codeAny (model P wd) A (.call (.ref f) ⟨us, []⟩) (CR (L2.CX P wd) outer P wd H s Q E) s
theorem clo_ok (S : NdefX.NScope N xs fr scope) (hb : ∀ (cl : List (Str × Addr)) (pm cv ct : Value) (us : List Value), us.length = xs.length → bindArgs (lamFd q params body scope cl .none pm cv ct) ⟨us, []⟩ = pure (xs.zip us))
    (hbody : ∀ (c' f : Addr) (A : Around) (outer : List Env) (s : Shared) (H : Hp) (E : XK), Room k (A.deeper (NdefX.envF (cloNF q params scope cl c') f s.heap.objs.size)) → Takes (CxC P wd K mg base N q params scope cl c' f A outer s H E) (fun cls d _ H => E cls d H) →
      DE (CxC P wd K mg base N q params scope cl c' f A outer s H E) T (fun cls d _ H => E cls d H) body g) : CloOk P wd K mg base T (k + 1) q params body scope cl xs fr (fnE N.length g) := by
  refine ⟨fun A outer s H F f us vs ws Q E room e0 hl hc rv hlen hsp => ?_⟩
  obtain ⟨c', dV, h1, _, h3, h4⟩ := hl
  obtain rfl : dV = .none := by
    rcases h4 with h4 | ⟨h4, _⟩
    · exact h4.2
    · exact absurd rfl h4
  obtain ⟨⟨pm, ct, ho⟩, _, _⟩ := e0.hok f _ h3
  obtain ⟨⟨oc, cvs, t, hoc, hdc, hvc⟩, _, _⟩ := e0.hok c' _ h1
  refine PySem.W.kla_callFunE room.depth ho rfl S.co S.gen rfl ⟨c', oc, cvs, t, rfl, hoc, hdc, hvc⟩ ?_
  show wpAny _ _ (bindArgs (lamFd _ _ _ _ _ .none pm (.ref c') ct) ⟨us, []⟩) _ _ _
  rw [hb cl pm (.ref c') ct us (by rw [← rv.length]; exact hlen)]
  have lim : s.heap.NoLimit := e0.mod.nolimit.keeps fun b o e => (e0.bs b o e).1
  refine wpAny_pure (wpAny_newFunctionEnv S.nocell (fun ⟨n, _⟩ hy => S.par n (List.of_mem_zip hy).1) (fun h₁ hns hsb => ⟨lim.fresh _ hsb, ?_⟩) S.kind)
  show codeAny _ _ (.expr body (NdefX.envF (cloNF q params scope cl c') f s.heap.objs.size)) _ _
  have kp : ∀ b o, s.heap.get? b = some o → h₁.get? b = some o := fun b o e => hsb.extBut b o (Nat.ne_of_lt (Heap.lt_size e)) (Heap.get?_push_of_some _ e)
  have J : Inv (CxC P wd K mg base N q params scope cl c' f A outer s H E) [] (NdefX.startF N vs (ws.map some)) H { s with heap := h₁, toks := s.toks + (xs.zip us).length } := NdefX.inv_startN S room.hd e0 hlen rv hc hns kp
  have tk : Takes (CxC P wd K mg base N q params scope cl c' f A outer s H E) (fun cls d _ H => E cls d H) := L2.takes_of rfl rfl rfl rfl
  obtain ⟨te, pe, hd⟩ := (hbody c' f A outer s H E (room.deeper _) tk).run
  obtain ⟨hl2, Xs, w, ds, W, hv, hm⟩ := hsp
  refine PySem.W.kla_codeExpr (wpAny_mono (pe.run [] _ _ H Q J (hd (Gin K T H w Xs) [] w (slots0 N.length ds) _ H Q rfl rfl ⟨W, [], List.nodup_nil, fun _ z => z, slots_clo hv⟩ ?_)) (fun v s' hq => ?_) fun e s' hq => hq)
  · unfold fnE at hm
    refine hm.imp (fun d w' q2 v H' R t p => q2 v H' R.toWor p) (fun e r' w' q2 cls od O' s' H' R p => ?_)
    exact q2 cls od H' R.toWor.bare (XRep.bare (G := Gin K T H w Xs) p)
  · obtain ⟨v', H', J', rv2, q2⟩ := hq
    exact ⟨v', H', J'.os, J'.bare, J'.base, J'.hok, rv2, q2⟩
end
/-! ### the call of a parameter that holds a closure -/
def fnAtW (w : Om) (a : Addr) (n0 : Nat) : Bool := match w a with
  | some (.fn k) => k == n0
  | _ => false
theorem fnAtW_eq {w : Om} {a : Addr} {n0 : Nat} (h : fnAtW w a n0 = true) : w a = some (.fn n0) := by
  unfold fnAtW at h
  split at h
  · rename_i k e
    rw [e, eq_of_beq h]
  · cases h
def eCallC (i n0 np : Nat) (cs : List D) (m : List D → Om → Out D) (fs : Sl → Om → Out (List D)) : Sl → Om → Out D := fun r w => match r[i]? with
  | some (.p (.ref a)) => if fnAtW w a n0 = true then (fs r w).bind fun ds w1 => (if fnAtW w1 a n0 = true ∧ ds.length = np then (m (ds ++ cs) w1).at r else .stuck) else .stuck
  | _ => .stuck
section
variable {X : Cx} {T : Tbl} {W : WX} {k : Nat} {q : Str} {params : Arguments} {body : Expr} {scope : Scope} {cl : List (Str × Addr)} {xs fr : List Str} {m : List D → Om → Out D} {ws : List V} {cs : List D} {x : Str} {e : Expr} {es : List Expr} {fs : Sl → Om → Out (List D)} {p pos : Pos} {n0 : Nat}
def tCallC (T : Tbl) (W : WX) (K : PySem.W.Frag) (mg : Str → Option Value) (i : Nat) (q : Str) (params : Arguments) (body : Expr) (scope : Scope) (cl : List (Str × Addr)) (xs fr : List Str) (m : List D → Om → Out D) (ws : List V) (ta : TA) : TE := fun σ H Q => ∃ f, σ[i]? = some (some (.ref f)) ∧ (∃ F, LamAt q params body scope cl [] F H f) ∧
  ta σ H fun vs H1 => (∃ F, LamAt q params body scope cl [] F H1 f) ∧ vs.length = xs.length ∧ spW K mg T (xs.length + fr.length) m (vs ++ ws) H1 Q (WE W σ)
theorem lam_fnAt {pins : List (Addr × Obj)} {σ : L2.St} {H : Hp} {s : Shared} {F : Addr → Prop} {f : Addr} (inv : Inv X pins σ H s) (h : LamAt q params body scope cl [] F H f) : PySem.W.FnAt f s.heap := by
  obtain ⟨c', dV, h1, _, h3, h4⟩ := h
  obtain ⟨⟨pm, ct, ho⟩, _, _⟩ := inv.hok f _ h3
  exact ⟨_, _, _, _, ho⟩
theorem pe_callC {ta : TA} (i : Nat) (C : CloOk X.prog X.w X.K X.mg X.base T k q params body scope cl xs fr m) (room : Room k X.A) (tk : Takes X W) (hc : ∀ pins σ H s, Inv X pins σ H s → NdefX.CellsAt cl fr (ws.map some) s.heap H) (ha : PA X (e :: es) ta) (hN : X.N[i]? = some x) (hv : Vis X.env.scope x)
    (hd : (x == ("__debug__" : Str)) = false) (hcd : (x == ("__classdict__" : Str)) = false) (he : starEach (e :: es) X.env = (false, eval e X.env) :: starEach es X.env) (hpl : (backTo pos (starEach es X.env)).any (·.1) = false) :
    PE X (.Call (.Name x p) (e :: es) [] pos) (tCallC T W X.K X.mg i q params body scope cl xs fr m ws ta) := by
  refine ⟨fun pins s σ H Q inv ⟨f, h1, ⟨F, h2⟩, h3⟩ => ?_⟩
  apply wpAny_Call_Name_kw
  refine thn ((pv (pos := p) i hN hv hd hcd).run pins s σ H (fun v H1 => v = .ref f ∧ H1 = H) inv ⟨.ref f, h1, rfl, rfl⟩) ?_
  rintro u s1 ⟨v, H1, inv1, r1, rfl, rfl⟩
  cases r1
  refine PySem.W.callWith_F (first := []) (lam_fnAt inv1 h2) (thn (ha.run pos pins s1 σ H1 _ inv1 h3) ?_) he hpl
  rintro us s2 ⟨vs, H2, inv2, r, ⟨F2, la⟩, hl, want⟩
  refine ⟨lam_fnAt inv2 la, ?_⟩
  show wpAny _ _ (call (.ref f) us) _ _ _
  apply wpAny_call
  refine codeAny_mono (C.run X.A X.stack s2 H2 F2 f us vs ws Q (WE W σ) room inv2.env0 la (hc _ _ _ _ inv2) r hl want) ?_
  intro res sh' got
  match res, got with
  | .error ex, got => exact (passAt tk σ) pins H2 s2 ex sh' inv2 got
  | .ok (.ret u), got => exact inv2.after got
  | .ok .next, got => exact got.elim
  | .ok .brk, got => exact got.elim
  | .ok .cont, got => exact got.elim
theorem dx_callC (i : Nat) (C : CloOk X.prog X.w X.K X.mg X.base T k q params body scope cl xs fr m) (hl : ∀ F H a, T.lm n0 F H a → LamAt q params body scope cl [] F H a ∧ Reps X.K F H ws cs) (hw : ws.length = fr.length) (room : Room k X.A) (tk : Takes X W) (hc : ∀ pins σ H s, Inv X pins σ H s → NdefX.CellsAt cl fr (ws.map some) s.heap H) (ha : DA X T W (e :: es) fs)
    (hN : X.N[i]? = some x := by rfl) (hv : Vis X.env.scope x := by first | exact Or.inl rfl | exact Or.inr (Or.inl rfl) | exact Or.inr (Or.inr rfl)) (hd : (x == ("__debug__" : Str)) = false := by decide) (hcd : (x == ("__classdict__" : Str)) = false := by decide)
    (he : starEach (e :: es) X.env = (false, eval e X.env) :: starEach es X.env := by rfl) (hpl : (backTo pos (starEach es X.env)).any (·.1) = false := by rfl) :
    DE X T W (.Call (.Name x p) (e :: es) [] pos) (eCallC i n0 xs.length cs m fs) := by
  obtain ⟨ta, pa, ha⟩ := ha.run
  refine ⟨_, pe_callC i C room tk hc pa hN hv hd hcd he hpl, fun G O w r s H Q hK hT R hs => ?_⟩
  unfold eCallC at hs
  split at hs
  · rename_i a ea
    split at hs
    · rename_i hf
      obtain ⟨v, e1, e2⟩ := R.get_p ea
      cases e2
      have lm := R.wok a _ (fnAtW_eq hf)
      have lm' : T.lm n0 (Fx G O w) H a := by rw [← hT]; exact lm
      refine ⟨a, e1, ⟨_, (hl _ _ _ lm').1⟩, ?_⟩
      rw [Out.sat_bind] at hs
      refine ha G O w r s H _ hK hT R (hs.mono fun ds w1 q vs H1 R1 t1 p1 => ?_)
      split at q
      · rename_i hcnd
        have lm1 := R1.wok a _ (fnAtW_eq hcnd.1)
        have lm1' : T.lm n0 (Fx G O w1) H1 a := by rw [← hT]; exact lm1
        obtain ⟨l1, l2⟩ := hl _ _ _ lm1'
        have hvl : vs.length = xs.length := by rw [p1.length]; exact hcnd.2
        refine ⟨⟨_, l1⟩, hvl, sp_run hK hT R1 (by rw [List.length_append, hvl, hw]) (p1.append (by rw [hK]; exact l2)) (q.mono fun d w2 q v H2 R2 t2 p2 => q v H2 R2 (t1.trans t2) p2)⟩
      · exact q.elim
    · exact hs.elim
  · exact hs.elim
end
end DL

set_option Elab.async false
set_option linter.all false
set_option maxRecDepth 100000
set_option maxHeartbeats 4000000
/-! DL36: a call that hands a closure over. -/
namespace DL
open PySem PySem.Spec L2
open PyProof.Rows hiding St
/-- some objects of a heap, the others gone -/
def keepH (h : Heap) (p : Addr → Bool) : Heap := ⟨h.objs.mapIdx fun i o => if p i = true then o else { o with data := .freed }, h.life⟩
theorem keepH_get {h : Heap} {p : Addr → Bool} {a : Addr} : (keepH h p).get? a = if p a = true then h.get? a else none := by
  unfold keepH Heap.get?
  dsimp only
  rw [Array.getElem?_mapIdx]
  cases e : h.objs[a]? with
  | none => simp
  | some o =>
    by_cases q : p a = true
    · simp [q]
    · simp [q]
theorem keepH_size {h : Heap} {p : Addr → Bool} : (keepH h p).objs.size = h.objs.size := by
  unfold keepH
  simp
def baseC (base h : Heap) (cl : List (Str × Addr)) : Heap := keepH h fun a => (base.get? a).isSome || (cl.map (·.2)).contains a
theorem funFrames_base {h base base' : Heap} : ∀ {l : List Env}, h.FunFrames base l → (∀ b ∈ l.filterMap (·.frame), base'.get? b = none) → h.FunFrames base' l
  | [], _, _ => trivial
  | env :: l, ⟨hk, ⟨L, o, hf, hn, ho, hd⟩, hr⟩, hb => ⟨hk, ⟨L, o, hf, hb L (by rw [List.filterMap_cons, hf]; exact List.mem_cons_self ..), ho, hd⟩, funFrames_base hr fun b m => hb b (by rw [List.filterMap_cons, hf]; exact List.mem_cons_of_mem _ m)⟩
section
variable {X : Cx} {pins : List (Addr × Obj)} {σ : L2.St} {H : Hp} {s : Shared} {cl : List (Str × Addr)}
theorem baseC_up (inv : Inv X pins σ H s) : ∀ b o, X.base.get? b = some o → (baseC X.base s.heap cl).get? b = some o := fun b o e => by
  unfold baseC
  rw [keepH_get, if_pos (by rw [e]; rfl)]
  exact (inv.bs b o e).1
theorem baseC_in {base h : Heap} {b : Addr} {o : Obj} (e : (baseC base h cl).get? b = some o) : h.get? b = some o ∧ ((∃ o', base.get? b = some o') ∨ ∃ y, (y, b) ∈ cl) := by
  unfold baseC at e
  rw [keepH_get] at e
  split at e
  · rename_i q
    refine ⟨e, ?_⟩
    rw [Bool.or_eq_true] at q
    rcases q with q | q
    · exact .inl (Option.isSome_iff_exists.mp q)
    · rw [List.contains_iff_mem, List.mem_map] at q
      obtain ⟨⟨y, c⟩, h1, h2⟩ := q
      exact .inr ⟨y, by rw [← h2]; exact h1⟩
  · cases e
theorem baseC_cell {base h : Heap} {y : Str} {c : Addr} (m : (y, c) ∈ cl) {o : Obj} (e : h.get? c = some o) : (baseC base h cl).get? c = some o := by
  unfold baseC
  rw [keepH_get, if_pos]
  · exact e
  · rw [Bool.or_eq_true, List.contains_iff_mem]
    exact .inr (List.mem_map.mpr ⟨(y, c), m, rfl⟩)
theorem mod_up {K : PySem.W.Frag} {mg : Str → Option Value} {base base' : Heap} (M : Mod K mg base) (up : ∀ b o, base.get? b = some o → base'.get? b = some o) : Mod K mg base' :=
  ⟨M.kin.keeps up, M.glob.keeps up, let ⟨mb, h1, h2⟩ := M.blt; ⟨mb, h1.keeps up, h2⟩, M.nolimit.keeps up⟩
theorem env0_clo (inv : Inv X pins σ H s) (hfn : ∀ y, X.fn y = true) (hcl : ∀ p ∈ cl, X.env.cells.lookup p.1 = some p.2) : Env0 X.prog X.w X.K X.mg (baseC X.base s.heap cl) X.A X.stack s H := by
  have e0 := inv.env0
  have nof : ∀ y c, (y, c) ∈ cl → c ∉ X.fs ∧ c ≠ X.env.locals := fun y c m => by
    have hc := hcl _ m
    refine ⟨fun z => ?_, inv.cne y c hc⟩
    have ge := inv.ok.cab y c (hfn y) hc
    obtain ⟨_, o, ho, _⟩ := inv.ok.funs.mem z
    exact absurd (Heap.lt_size ho) (Nat.not_lt.mpr ge)
  refine ⟨e0.frames, mod_up e0.mod (baseC_up inv), fun b o e => ?_, by unfold baseC; rw [keepH_size]; exact Nat.le_refl _, funFrames_base e0.funs fun b m => ?_, e0.frf, e0.hok, e0.bare⟩
  · obtain ⟨h1, h2⟩ := baseC_in e
    refine ⟨h1, ?_⟩
    rcases h2 with ⟨o', h2⟩ | ⟨y, h2⟩
    · exact (inv.bs b o' h2).2
    · exact inv.freeC y b (hcl _ h2)
  · cases e : (baseC X.base s.heap cl).get? b with
    | none => rfl
    | some o =>
      obtain ⟨h1, h2⟩ := baseC_in e
      rcases h2 with ⟨o', h2⟩ | ⟨y, h2⟩
      · have := (e0.funs.mem m).1
        rw [h2] at this
        cases this
      · obtain ⟨n1, n2⟩ := nof y b h2
        rcases inv.ok.stk with st | ⟨st, fr⟩
        · rw [st] at m
          exact absurd m n1
        · rw [st, List.filterMap_cons, fr] at m
          rcases List.mem_cons.mp m with z | z
          · exact absurd z n2
          · exact absurd z n1
end
end DL

set_option Elab.async false
set_option linter.all false
set_option maxRecDepth 100000
set_option maxHeartbeats 4000000
/-! DL37: a call whose last argument is a lambda. -/
namespace DL
open PySem PySem.Spec L2
open PyProof.Rows hiding St
def Om.unset (w : Om) (a : Addr) : Om := fun b => if b = a then none else w b
theorem Om.unset_ne {w : Om} {a b : Addr} (h : b ≠ a) : w.unset a b = w b := if_neg h
theorem Om.unset_same {w : Om} {a : Addr} : w.unset a a = none := if_pos rfl
theorem Om.unset_set {w : Om} {a : Addr} {m : MO} (h : w a = none) : (w.set a m).unset a = w := by
  funext b
  by_cases e : b = a
  · rw [e, Om.unset_same, h]
  · rw [Om.unset_ne e, Om.set_ne e]
theorem Om.unset_some {w : Om} {a b : Addr} {m : MO} (h : w.unset a b = some m) : b ≠ a ∧ w b = some m := by
  by_cases e : b = a
  · rw [e, Om.unset_same] at h
    cases h
  · exact ⟨e, by rwa [Om.unset_ne e] at h⟩
/-- the table in which the number n0 is the closure at f alone -/
def lmC (T : Tbl) (K : PySem.W.Frag) (n0 : Nat) (f : Addr) (q : Str) (params : Arguments) (body : Expr) (scope : Scope) (cl : List (Str × Addr)) (ws : List V) (cs : List D) : Tbl where
  ts := T.ts
  ls := T.ls
  lm := fun n F H a => (n ≠ n0 ∧ T.lm n F H a) ∨ (n = n0 ∧ a = f ∧ LamAt q params body scope cl [] F H a ∧ Reps K F H ws cs)
  lmS := fun n F H F' H' a t e h => by
    rcases h with ⟨h1, h2⟩ | ⟨h1, h2, h3, h4⟩
    · exact .inl ⟨h1, T.lmS n F H F' H' a t e h2⟩
    · exact .inr ⟨h1, h2, h3.tr t e, Reps.tr t _ _ h4⟩
  lmA := fun n F H a h => by
    rcases h with ⟨h1, h2⟩ | ⟨h1, h2, h3, h4⟩
    · exact T.lmA n F H a h2
    · exact h3.some
section
variable {G : Gc} {O : List Addr} {w : Om} {r : Sl} {s : L2.St} {H : Hp} {n0 : Nat} {f : Addr} {q : Str} {params : Arguments} {body : Expr} {scope : Scope} {cl : List (Str × Addr)} {ws : List V} {cs : List D} {K : PySem.W.Frag}
abbrev Gc.atT (G : Gc) (T : Tbl) : Gc := { G with T := T }
theorem Rel.toC (R : Rel G O w r s H) (hn : ∀ F H a, ¬ G.T.lm n0 F H a) : Rel (G.atT (lmC G.T K n0 f q params body scope cl ws cs)) O w r s H :=
  ⟨⟨R.keep, R.tabs, fun a m e => by
    have := R.wok a m e
    cases m with
    | lst l => exact this
    | ins C dx fs => exact this
    | fn n => exact .inl ⟨fun z => hn _ _ _ (z ▸ this), this⟩, R.odis, R.wdis, R.xsome, R.osome, R.ltabs⟩, R.slots⟩
theorem Rel.backC (R : Rel (G.atT (lmC G.T K n0 f q params body scope cl ws cs)) O w r s H) : Rel G O (w.unset f) r s H ∧ Tr (Fx G O w) H (Fx G O (w.unset f)) H := by
  have tr : Tr (Fx G O w) H (Fx G O (w.unset f)) H := tr_sub fun a z => by
    rcases z with z | z | z | z
    · exact .inl z
    · refine .inr (.inl fun e => z ?_)
      by_cases q : a = f
      · rw [q, Om.unset_same]
      · rw [Om.unset_ne q]; exact e
    · exact .inr (.inr (.inl z))
    · exact .inr (.inr (.inr z))
  have un : ∀ a, w a = none → w.unset f a = none := fun a e => by
    by_cases q : a = f
    · rw [q, Om.unset_same]
    · rw [Om.unset_ne q]; exact e
  have W : Wor G O (w.unset f) H := by
    refine ⟨fun a o e k t => ?_, R.tabs, fun a m e => ?_, ⟨R.odis.1, fun a m => ?_⟩, fun a e => R.wdis a fun z => e (un a z), R.xsome, R.osome, fun p hp => ⟨(R.ltabs p hp).1, (R.ltabs p hp).2.tr tr rfl⟩⟩
    · obtain ⟨h1, h2, h3⟩ := R.keep a o e k t
      exact ⟨h1, un a h2, h3⟩
    · obtain ⟨ne, e'⟩ := Om.unset_some e
      have := R.wok a m e'
      cases m with
      | lst l =>
        obtain ⟨xs, h1, h2⟩ := this
        exact ⟨xs, h1, Reps.tr tr _ _ h2⟩
      | ins C dx fs =>
        obtain ⟨vs, h1, h2⟩ := this
        exact ⟨vs, h1, h2.tr tr⟩
      | fn n =>
        rcases this with ⟨_, h⟩ | ⟨_, h, _⟩
        · exact G.T.lmS n _ _ _ _ a tr (fun o e => e) h
        · exact absurd h ne
    · obtain ⟨h1, h2, h3⟩ := R.odis.2 a m
      exact ⟨un a h1, h2, h3⟩
  obtain ⟨O1, n1, sub, sl⟩ := R.slots
  exact ⟨⟨W, O1, n1, sub, sl.tr tr fun a m o e => e⟩, tr⟩
end
end DL

set_option Elab.async false
set_option linter.all false
set_option maxRecDepth 100000
set_option maxHeartbeats 4000000
/-! DL38: f(.., lambda ..). -/
namespace DL
open PySem PySem.Spec L2
open PyProof.Rows hiding St
/-- the captured values -/
def capsS (r : Sl) : List Nat → Option (List D)
  | [] => some []
  | j :: js => match r[j]? with
    | some (.p d) => (capsS r js).map (d :: ·)
    | _ => none
theorem capsS_get {G : Gc} {O : List Addr} {w : Om} {r : Sl} {s : L2.St} {H : Hp} (R : Rel G O w r s H) : ∀ {js : List Nat} {cs : List D}, capsS r js = some cs → ∃ ws : List V, js.map (NdefX.slotAt s) = ws.map some ∧ Reps G.K (Fx G O w) H ws cs
  | [], cs, h => by
    cases h
    exact ⟨[], rfl, .nil⟩
  | j :: js, cs, h => by
    unfold capsS at h
    split at h
    · rename_i d e
      obtain ⟨cs', h1, rfl⟩ := Option.map_eq_some_iff.mp h
      obtain ⟨ws, h2, h3⟩ := capsS_get R h1
      obtain ⟨v, h4, h5⟩ := R.get_p e
      refine ⟨v :: ws, ?_, .cons h5 h3⟩
      rw [List.map_cons, List.map_cons, h2, NdefX.slotAt, h4]
    · cases h
/-- arguments, the last of them a lambda -/
structure DAL (X : Cx) (T : Tbl) (W : WX) (es : List Expr) (fs : Sl → Om → Out (List D)) (P : Addr) (q : Str) (params : Arguments) (body : Expr) (scope : Scope) (cl : List (Str × Addr)) : Prop where
  run : ∃ ta : TA, PA X es ta ∧ ∀ (G : Gc) (O : List Addr) (w : Om) (r : Sl) (s : L2.St) (H : Hp) (Q : List V → Hp → Prop), G.K = X.K → G.T = T → Rel G O w r s H →
    (fs r w).Sat (fun ds w' => ∀ (vs : List V) (H1 H2 : Hp) (f : Addr) (ps : Array Value), Rel G O w' r s H1 → TrE G w H w' H1 → Reps G.K (Fx G O w') H1 vs ds → H1 P = some (.tbl ps) → LamNew q params body scope cl [] P ps H1 H2 f → Q (vs ++ [.ref f]) H2) (OkX X G W) → ta s H Q
section
variable {X : Cx} {T : Tbl} {W : WX} {k n n0 : Nat} {P c fg : Addr} {q x : Str} {params : Arguments} {body : Expr} {scope : Scope} {cl : List (Str × Addr)} {xs fr : List Str} {js : List Nat} {e : Expr} {es : List Expr} {f : Sl → Om → Out D} {fs : Sl → Om → Out (List D)} {p pos : Pos} {mG : List D → List D → Om → Out D}
theorem dal_lam (TB : LamX.TabB X.base X.mg c P) (hcode : X.env.code = .ref c) (hP : (P, X.env.qual ++ "<lambda>") ∈ T.ls) (hdef : defaultsOf params X.env = (evalEach [] X.env, []))
    (hfree : ∀ y ∈ scope.names, y.2 = .free → X.env.scope.names.lookup y.1 = some .cell ∨ X.env.scope.names.lookup y.1 = some .free) (hs : starEach [Expr.Lambda params body scope pos] X.env = (false, eval (Expr.Lambda params body scope pos) X.env) :: starEach [] X.env := by rfl) :
    DAL X T W [.Lambda params body scope pos] aNil P (X.env.qual ++ "<lambda>") params body scope (cloFrom X.env.cells scope.names []) := by
  refine ⟨_, pa_cons (pe_lamD (ds := []) TB hcode hdef .nil (Nat.zero_le _) hfree) pa_nil hs, fun G O w r s H Q hK hT R hs => ?_⟩
  subst hT
  obtain ⟨ps, e, t, old⟩ := (R.ltabs _ hP).2
  refine ⟨ps, e, t, fun pos cv h => ?_, fun f H1 nw => ?_⟩
  · obtain ⟨c', e1, e2, _⟩ := old pos cv h
    exact ⟨c', e1, e2⟩
  · have hs : ∀ (vs : List V) (H1 H2 : Hp) (f : Addr) (ps : Array Value), Rel G O w r s H1 → TrE G w H w H1 → Reps G.K (Fx G O w) H1 vs [] → H1 P = some (.tbl ps) → LamNew (X.env.qual ++ "<lambda>") params body scope (cloFrom X.env.cells scope.names []) [] P ps H1 H2 f → Q (vs ++ [.ref f]) H2 := hs
    exact hs [] H H1 f ps R (TrE.refl _ _ _) .nil e nw
theorem dal_cons (ha : DE X T W e f) (hr : DAL X T W es fs P q params body scope cl) (hs : starEach (e :: es) X.env = (false, eval e X.env) :: starEach es X.env := by rfl) : DAL X T W (e :: es) (aCons f fs) P q params body scope cl := by
  obtain ⟨te, pe, ha⟩ := ha.run
  obtain ⟨ta, pa, hr⟩ := hr.run
  refine ⟨_, pa_cons pe pa hs, fun G O w r s H Q hK hT R hs => ?_⟩
  unfold aCons at hs
  rw [Out.sat_bind] at hs
  refine ha G O w r s H _ hK hT R (hs.mono fun d w1 q v H1 R1 t1 p1 => ?_)
  rw [Out.sat_bind] at q
  exact hr G O w1 r s H1 _ hK hT R1 (q.mono fun ds w2 q vs H2 H3 f ps R2 t2 p2 e nw => q (v :: vs) H2 H3 f ps R2 (t1.trans t2) (.cons (Rep.tr t2.tr _ _ p1) p2) e nw)
/-- a table that tells of the closure -/
structure TblC (T T' : Tbl) (K : PySem.W.Frag) (n0 : Nat) (q : Str) (params : Arguments) (body : Expr) (scope : Scope) (cl : List (Str × Addr)) (ws : List V) (cs : List D) : Prop where
  ts : T'.ts = T.ts
  ls : T'.ls = T.ls
  lm : ∀ F H a, T'.lm n0 F H a → LamAt q params body scope cl [] F H a ∧ Reps K F H ws cs
/-- a base that holds the closure's cells -/
structure BaseC (base base' : Heap) (cl : List (Str × Addr)) (fr : List Str) (ws : List V) : Prop where
  len : ws.length = fr.length
  up : ∀ b o, base.get? b = some o → base'.get? b = some o
  cells : ∀ (s : Shared) (H : Hp), (∀ b o, base'.get? b = some o → s.heap.get? b = some o ∧ H b = none) → NdefX.CellsAt cl fr (ws.map some) s.heap H
theorem BaseC.of {base h : Heap} {H : Hp} {ws : List V} (hup : ∀ b o, base.get? b = some o → (baseC base h cl).get? b = some o) (C : NdefX.CellsAt cl fr (ws.map some) h H) (hn : ∀ b o, (baseC base h cl).get? b = some o → H b = none) (hk : ∀ p ∈ cl, cl.lookup p.1 = some p.2) : BaseC base (baseC base h cl) cl fr ws := by
  refine ⟨by have := C.len; rwa [List.length_map] at this, hup, fun s H' hb => ?_⟩
  have cell : ∀ {y : Str} {c : Addr} {v : Option Value}, cl.lookup y = some c → h.IsCell c v → s.heap.IsCell c v ∧ H' c = none := fun {y c v} e ⟨o, ho, hd⟩ => by
    obtain ⟨h1, h2⟩ := hb c o (baseC_cell (PySem.mem_of_lookup e) ho)
    exact ⟨⟨o, h1, hd⟩, h2⟩
  refine ⟨C.len, fun y c e => ?_, C.inj, fun i y e => ?_⟩
  · obtain ⟨_, v, hv⟩ := C.all y c e
    obtain ⟨h1, h2⟩ := cell e hv
    exact ⟨h2, v, h1⟩
  · obtain ⟨c, h1, h2⟩ := C.has i y e
    refine ⟨c, h1, fun v hv => ?_⟩
    obtain ⟨u, r1, r2⟩ := h2 v hv
    exact ⟨u, r1, (cell h1 r2).1⟩
def tCallLam (T : Tbl) (W : WX) (K : PySem.W.Frag) (mg : Str → Option Value) (n0 n : Nat) (js : List Nat) (q : Str) (params : Arguments) (body : Expr) (scope : Scope) (cl : List (Str × Addr)) (mG : List D → List D → Om → Out D) (ta : TA) : TE := fun σ H Q => ta σ H fun vs H2 => ∃ ws cs T', js.map (NdefX.slotAt σ) = ws.map some ∧ TblC T T' K n0 q params body scope cl ws cs ∧ spW K mg T' n (mG cs) vs H2 Q (WE W σ)
theorem pe_callLam {ta : TA} (room : Room k X.A) (tk : Takes X W) (hg : Gl X x) (hm : X.mg x = some (.ref fg)) (hk : PySem.W.keepIn X.K (.ref fg) = true) (hfn : ∀ y, X.fn y = true) (hcl : X.Ok → ∀ p ∈ cl, X.env.cells.lookup p.1 = some p.2 ∧ cl.lookup p.1 = some p.2) (cp : X.Ok → NdefX.Caps X cl fr js)
    (FG : ∀ (base' : Heap) (T' : Tbl) (ws : List V) (cs : List D), BaseC X.base base' cl fr ws → TblC T T' X.K n0 q params body scope cl ws cs → FnN X.prog X.w X.K X.mg base' T' k fg n [] (mG cs)) (ha : PA X (e :: es) ta)
    (hdb : (x == ("__debug__" : Str)) = false) (h1 : starEach (e :: es) X.env = (false, eval e X.env) :: starEach es X.env) (h2 : (backTo pos (starEach es X.env)).any (·.1) = false) : PE X (.Call (.Name x p) (e :: es) [] pos) (tCallLam T W X.K X.mg n0 n js q params body scope cl mG ta) := by
  constructor
  intro pins sh σ H Q inv run
  apply wpAny_Call_Name_kw
  refine ld_glob inv hg hm ?_ hdb
  refine PySem.W.callWith_K (h₀ := X.base) inv.ok.mod.kin hk (thn (ha.run pos pins sh σ H _ inv run) ?_) h1 h2
  rintro us s1 ⟨vs, H2, inv1, rel, ws, cs, T', hw, ht, want⟩
  refine ⟨inv1.kIn, ?_⟩
  show wpAny _ _ (call (.ref fg) us) _ _ _
  have hcl' := hcl inv1.ok
  have e0 := env0_clo (cl := cl) inv1 hfn fun p hp => (hcl' p hp).1
  have C := NdefX.cells_of inv1 (cp inv1.ok)
  rw [hw] at C
  obtain ⟨fd, ps, dus, dvs, g0, g1, g2, g3, g4⟩ := (FG _ T' ws cs (.of (baseC_up inv1) C (fun b o e => (e0.bs b o e).2) fun p hp => (hcl' p hp).2) ht).ex
  have hd : dvs = [] := by
    have := (g4 (fun _ => False) H2)
    cases this
    rfl
  subst hd
  cases g3
  have len : (us ++ []).length = ps.length := by rw [List.append_nil, ← rel.length, g0]; exact want.1
  apply wpAny_call
  refine codeAny_mono (g1.run X.A X.stack s1 H2 ⟨us, []⟩ (us ++ []) vs Q (WE W σ) room e0 (g2 s1 us inv1.kIn len) (by rw [List.append_nil]; exact rel) want) ?_
  intro res sh' got
  match res, got with
  | .error ex, got => exact (passAt tk σ) pins H2 s1 ex sh' inv1 got
  | .ok (.ret u), got => exact inv1.after got
  | .ok .next, got => exact got.elim
  | .ok .brk, got => exact got.elim
  | .ok .cont, got => exact got.elim
def eCallLam (n0 n : Nat) (js : List Nat) (mG : List D → List D → Om → Out D) (fs : Sl → Om → Out (List D)) : Sl → Om → Out D := fun r w => match capsS r js with
  | some cs => (fs r w).bind fun ds w1 => if ds.length + 1 = n then .frs w1 fun f => ((mG cs (ds ++ [.ref f]) (w1.set f (.fn n0))).calm).bind fun d w2 => .ok d (w2.unset f) else .stuck
  | none => .stuck
theorem dx_callLam (room : Room k X.A) (tk : Takes X W) (hg : Gl X x) (hm : X.mg x = some (.ref fg)) (hk : PySem.W.keepIn X.K (.ref fg) = true) (hfn : ∀ y, X.fn y = true) (hcl : X.Ok → ∀ p ∈ cl, X.env.cells.lookup p.1 = some p.2 ∧ cl.lookup p.1 = some p.2) (cp : X.Ok → NdefX.Caps X cl fr js)
    (hP : (P, q) ∈ T.ls) (hu : ∀ p ∈ T.ls, p.1 = P → p.2 = q) (hn0 : ∀ F H a, ¬ T.lm n0 F H a)
    (FG : ∀ (base' : Heap) (T' : Tbl) (ws : List V) (cs : List D), BaseC X.base base' cl fr ws → TblC T T' X.K n0 q params body scope cl ws cs → FnN X.prog X.w X.K X.mg base' T' k fg n [] (mG cs)) (ha : DAL X T W (e :: es) fs P q params body scope cl)
    (hdb : (x == ("__debug__" : Str)) = false := by decide) (h1 : starEach (e :: es) X.env = (false, eval e X.env) :: starEach es X.env := by rfl) (h2 : (backTo pos (starEach es X.env)).any (·.1) = false := by rfl) : DE X T W (.Call (.Name x p) (e :: es) [] pos) (eCallLam n0 n js mG fs) := by
  obtain ⟨ta, pa, ha⟩ := ha.run
  refine ⟨_, pe_callLam (fr := fr) room tk hg hm hk hfn hcl cp FG pa hdb h1 h2, fun G O w r s H Q hK hT R hs => ?_⟩
  subst hT
  unfold eCallLam at hs
  split at hs
  · rename_i cs ec
    obtain ⟨ws, hw, hr⟩ := capsS_get R ec
    rw [Out.sat_bind] at hs
    refine ha G O w r s H _ hK rfl R (hs.mono fun ds w1 q1 vs H1 H2 f ps R1 t1 p1 eP nw => ?_)
    split at q1
    · rename_i hl
      have q2 := Out.sat_frs.mp q1 f (R1.wnone nw.new)
      have R1' : Rel (G.atT (lmC G.T X.K n0 f q params body scope cl ws cs)) O w1 r s H1 := R1.toC hn0
      obtain ⟨R2, t2⟩ := R1'.lam (n := n0) hP hu eP nw fun tre la => .inr ⟨rfl, rfl, la, by
        have h3 : Reps X.K (Fx G O w1) H1 ws cs := by rw [← hK]; exact Reps.tr t1.tr _ _ hr
        exact Reps.tr tre.tr _ _ h3⟩
      refine ⟨ws, cs, lmC G.T X.K n0 f q params body scope cl ws cs, hw, ⟨rfl, rfl, fun F H a h => ?_⟩, ?_⟩
      · rcases h with ⟨h, _⟩ | ⟨_, _, h3, h4⟩
        · exact absurd rfl h
        · exact ⟨h3, h4⟩
      · rw [Out.sat_bind] at q2
        have q3 := Out.sat_calm (E' := fun _ _ _ => False) q2
        have p2 : Reps G.K (Fx (G.atT (lmC G.T X.K n0 f q params body scope cl ws cs)) O (w1.set f (.fn n0))) H2 (vs ++ [.ref f]) (ds ++ [.ref f]) := (Reps.tr t2.tr _ _ p1).append (.cons (.ref f) .nil)
        refine sp_run (G := G.atT (lmC G.T X.K n0 f q params body scope cl ws cs)) hK rfl R2 (by rw [List.length_append, p1.length]; exact hl) p2 ?_
        rw [Out.sat_at]
        refine q3.imp (fun d w2 q4 v H' R3 t3 p3 => ?_) (fun _ _ _ z => z.elim)
        obtain ⟨R4, t4⟩ := R3.backC
        have q5 : ∀ v H', Rel G O (w2.unset f) r s H' → TrE G w H (w2.unset f) H' → Rep G.K (Fx G O (w2.unset f)) H' v d → Q v H' := q4
        refine q5 v H' R4 (fun a o e n t => ?_) (Rep.tr t4 _ _ p3)
        obtain ⟨a1, a2⟩ := t1 a o e n t
        obtain ⟨a3, a4⟩ := t2 a o a1 a2 t
        obtain ⟨a5, a6⟩ := t3 a o a3 a4 t
        refine ⟨a5, ?_⟩
        by_cases z : a = f
        · rw [z, Om.unset_same]
        · rw [Om.unset_ne z]; exact a6
    · exact q1.elim
  · exact hs.elim
/-- a lambda's cells are its maker's -/
theorem clo_all {cells : List (Str × Addr)} {names : List (Str × NameKind)} (hfree : ∀ y ∈ names, y.2 = .free → ∃ c, cells.lookup y.1 = some c) : ∀ p ∈ cloFrom cells names [], cells.lookup p.1 = some p.2 ∧ (cloFrom cells names []).lookup p.1 = some p.2 := by
  have val : ∀ {y : Str} {c : Addr}, (y, c) ∈ cloFrom cells names [] → cells.lookup y = some c := fun {y c} m => by
    rcases cloFrom_mem m with hm | ⟨h1, h2⟩
    · cases hm
    · obtain ⟨c', hc⟩ := hfree _ h1 rfl
      have hc : cells.lookup y = some c' := hc
      rw [hc] at h2
      rw [hc, h2]
      rfl
  rintro ⟨y, c⟩ m
  have h1 := val m
  refine ⟨h1, ?_⟩
  obtain ⟨c', e⟩ := mem_lookup m
  have h2 := val (PySem.mem_of_lookup e)
  rw [h1] at h2
  cases h2
  exact e
end
end DL

set_option Elab.async false
set_option linter.all false
set_option maxRecDepth 100000
set_option maxHeartbeats 4000000
/-! DL39: tables with several makers of lambdas; while with a written fuel. -/
namespace DL
open PySem PySem.Spec L2
open PyProof.Rows hiding St
/-- the number that a closure handed over bears -/
abbrev cN : Nat := 1000
/-- no closure is handed over yet -/
def NoC (T : Tbl) : Prop := ∀ F H a, ¬ T.lm cN F H a
/-- the law's lambdas (below cN) and the other makers' tables -/
def lamTbl2 (ts : List Addr) (ls : List (Addr × Str)) (P : Addr) (env : Env) (L : Nat → LamR) : Tbl where
  ts := ts
  ls := (P, env.qual ++ "<lambda>") :: ls
  lm := fun n F H f => n < cN ∧ (lamTbl ts P env L).lm n F H f
  lmS := fun n F H F' H' a t e h => ⟨h.1, (lamTbl ts P env L).lmS n F H F' H' a t e h.2⟩
  lmA := fun n F H a h => (lamTbl ts P env L).lmA n F H a h.2
theorem lamTbl2_no {ts : List Addr} {ls : List (Addr × Str)} {P : Addr} {env : Env} {L : Nat → LamR} : NoC (lamTbl2 ts ls P env L) := fun F H a h => absurd h.1 (Nat.lt_irrefl _)
/-- no lambdas in the law, other makers' tables -/
def tbl2 (ts : List Addr) (ls : List (Addr × Str)) : Tbl := ⟨ts, ls, fun _ _ _ _ => False, fun _ _ _ _ _ _ _ _ h => h, fun _ _ _ _ h => h.elim⟩
theorem tbl2_no {ts : List Addr} {ls : List (Addr × Str)} : NoC (tbl2 ts ls) := fun F H a h => h
section
variable {X : Cx} {T : Tbl} {W : WX} {c : Expr} {body : List Stmt} {pos : Pos} {t : Sl → Om → Out Bool} {g : Sl → Om → Out Res}
def sWhile (n : Nat) (t : Sl → Om → Out Bool) (g : Sl → Om → Out Res) : Sl → Om → Out Res := fun r w => whGo t g n r w
theorem ds_whileK (n : Nat) (hp : PassesOwn (model X.prog X.w) X.A X.env X.xe) (ht : DT X T W c t) (hb : DSs X T W body g) : DS X T W (.While c body [] pos) (sWhile n t g) := ds_while (fun _ _ => n) hp ht hb
end
/-- a base that grew -/
theorem tabX_up {base base' : Heap} {mg : Str → Option Value} {c P : Addr} (up : ∀ b o, base.get? b = some o → base'.get? b = some o) (h : LamX.TabB base mg c P) : LamX.TabB base' mg c P := ⟨h.1.keeps up, h.2.keeps up, h.3⟩
theorem tabG_up {base base' : Heap} {mg : Str → Option Value} {c P : Addr} (up : ∀ b o, base.get? b = some o → base'.get? b = some o) (h : GxR.TabB base mg c P) : GxR.TabB base' mg c P := ⟨h.1.keeps up, h.2.keeps up, h.3⟩
/-- the name of a lambda in the def q -/
def qL (q : Str) : Str := q ++ ".<locals>." ++ "<lambda>"
section
variable {X : Cx} {T : Tbl} {W : WX} {k n : Nat} {P fg : Addr} {x : Str} {params : Arguments} {body : Expr} {scope : Scope} {e : Expr} {es : List Expr} {fs : Sl → Om → Out (List D)} {p pos : Pos}
theorem dx_callL2 (js : List Nat) (fr : List Str) (mG : List D → List D → Om → Out D) (room : Room k X.A) (tk : Takes X W) (hg : Gl X x) (hm : X.mg x = some (.ref fg)) (hk : PySem.W.keepIn X.K (.ref fg) = true)
    (hfree : ∀ y ∈ scope.names, y.2 = .free → X.env.scope.names.lookup y.1 = some .cell ∨ X.env.scope.names.lookup y.1 = some .free) (hfr : ∀ y ∈ fr, (y, NameKind.free) ∈ scope.names) (hP : (P, X.env.qual ++ "<lambda>") ∈ T.ls) (hu : ∀ p ∈ T.ls, p.1 = P → p.2 = X.env.qual ++ "<lambda>") (hn0 : NoC T)
    (FG : ∀ (base' : Heap) (T' : Tbl) (cl : List (Str × Addr)) (ws : List V) (cs : List D), BaseC X.base base' cl fr ws → TblC T T' X.K cN (X.env.qual ++ "<lambda>") params body scope cl ws cs → FnN X.prog X.w X.K X.mg base' T' k fg n [] (mG cs))
    (ha : DAL X T W (e :: es) fs P (X.env.qual ++ "<lambda>") params body scope (cloFrom X.env.cells scope.names [])) (hjs : js.map (fun j => X.N[j]?) = fr.map some := by rfl) (hfn : ∀ y, X.fn y = true := by exact fun _ => rfl)
    (hdb : (x == ("__debug__" : Str)) = false := by decide) (h1 : starEach (e :: es) X.env = (false, eval e X.env) :: starEach es X.env := by rfl) (h2 : (backTo pos (starEach es X.env)).any (·.1) = false := by rfl) : DE X T W (.Call (.Name x p) (e :: es) [] pos) (eCallLam cN n js mG fs) :=
  dx_callLam (fr := fr) room tk hg hm hk hfn (fun ok => clo_all fun y hy e => (hfree y hy e).elim (fun z => ok.has _ (.inl z)) fun z => ok.has _ (.inr z)) (fun ok => NdefX.Caps.made ok hfree hfr hjs) hP hu hn0 (fun base' T' ws cs hb ht => FG base' T' _ ws cs hb ht) ha hdb h1 h2
end
/-- what a def that hands a lambda over needs of the tables -/
structure Mkr (base : Heap) (mg : Str → Option Value) (T : Tbl) (c P : Addr) (q : Str) : Prop where
  tb : LamX.TabB base mg c P
  in_ : (P, qL q) ∈ T.ls
  un : ∀ p ∈ T.ls, p.1 = P → p.2 = qL q
  no : NoC T
theorem CloOk.mono {P : Program} {wd : World} {K : PySem.W.Frag} {mg : Str → Option Value} {base : Heap} {T : Tbl} {j k : Nat} {q : Str} {params : Arguments} {body : Expr} {scope : Scope} {cl : List (Str × Addr)} {xs fr : List Str} {m : List D → Om → Out D}
    (C : CloOk P wd K mg base T j q params body scope cl xs fr m) (h : j ≤ k) : CloOk P wd K mg base T k q params body scope cl xs fr m := ⟨fun A outer s H F f us vs ws Q E hr => C.run A outer s H F f us vs ws Q E (hr.mono h)⟩
theorem ls_no {l : List (Addr × Str)} {Q : Addr} (h : (l.all fun p => !(p.1 == Q)) = true) : ∀ p ∈ l, p.1 ≠ Q := fun p hp e => by
  have := List.all_eq_true.mp h p hp
  rw [e] at this
  simp at this
theorem ls_un {l : List (Addr × Str)} {P : Addr} {q : Str} (h : (l.all fun p => !(p.1 == P) || decide (p.2 = q)) = true) : ∀ p ∈ l, p.1 = P → p.2 = q := fun p hp e => by
  have := List.all_eq_true.mp h p hp
  rw [e] at this
  simpa using this
theorem mem_ts {T T' : Tbl} {P : Addr} (ts : T'.ts = T.ts) (h : P ∈ T) : P ∈ T' := by
  show P ∈ T'.ts
  rw [ts]
  exact h
section
variable {X : Cx} {T : Tbl} {W : WX} {k : Nat} {q : Str} {params : Arguments} {body : Expr} {scope : Scope} {cl : List (Str × Addr)} {x0 : Str} {fr : List Str} {m : List D → Om → Out D} {ws : List V} {cs : List D} {x : Str} {e : Expr} {es : List Expr} {fs : Sl → Om → Out (List D)} {p pos : Pos}
/-- a closure of one parameter -/
theorem dx_callC1 (i : Nat) (C : CloOk X.prog X.w X.K X.mg X.base T k q params body scope cl [x0] fr m) (hl : ∀ F H a, T.lm cN F H a → LamAt q params body scope cl [] F H a ∧ Reps X.K F H ws cs) (hw : ws.length = fr.length) (room : Room k X.A) (tk : Takes X W) (hc : ∀ (s : Shared) (H : Hp), (∀ b o, X.base.get? b = some o → s.heap.get? b = some o ∧ H b = none) → NdefX.CellsAt cl fr (ws.map some) s.heap H) (ha : DA X T W (e :: es) fs)
    (hN : X.N[i]? = some x := by rfl) (hv : Vis X.env.scope x := by first | exact Or.inl rfl | exact Or.inr (Or.inl rfl) | exact Or.inr (Or.inr rfl)) (hd : (x == ("__debug__" : Str)) = false := by decide) (hcd : (x == ("__classdict__" : Str)) = false := by decide)
    (he : starEach (e :: es) X.env = (false, eval e X.env) :: starEach es X.env := by rfl) (hpl : (backTo pos (starEach es X.env)).any (·.1) = false := by rfl) :
    DE X T W (.Call (.Name x p) (e :: es) [] pos) (eCallC i cN 1 cs m fs) := dx_callC i C hl hw room tk (fun _ _ H s inv => hc s H inv.bs) ha hN hv hd hcd he hpl
end
end DL

set_option Elab.async false
set_option linter.all false
set_option maxRecDepth 100000
set_option maxHeartbeats 2000000
/-! DL40: exceptions with fields: own classes whose __init__ stores its parameters. -/
namespace DL
open PySem PySem.Spec L2
open PyProof.Rows hiding St
/-- what is asked of such a class -/
structure OexF (K : PySem.W.Frag) (C fI : Addr) (fns : List Str) : Prop where
  T : OexC K C
  iC : PySem.W.findIn K (.ref C) "__init__" = some (some (.ref fI))
  tI : PySem.W.typeIn K (.ref fI) = some (.type "function")
  no : ∀ f ∈ fns, PySem.W.findIn K (.ref C) f = some none
  xf : XfC K C
def clsB (K : PySem.W.Frag) (C : Addr) : Bool := match K.lookup C with
  | some ⟨.type "type", dd, .cls cd, sl⟩ => (match cd.mro, sl.toList with
    | .ref C' :: bm, [_, _, _, _, some (.builtin n), _] => C' == C && n == "ValueError.__new__" && !cd.hasDel && cd.hasDict && PySem.HandSPX.refsVE bm
    | _, _ => false)
  | _ => false
def oexB (K : PySem.W.Frag) (C fI : Addr) (fns : List Str) : Bool :=
  clsB K C && (decide (PySem.W.findIn K (.ref C) "__setattr__" = some (some (.builtin "object.__setattr__"))) && (decide (PySem.W.subIn K (.ref C) (.type "BaseException") = some true) && (decide (PySem.W.typeIn K (.ref C) = some (.type "type")) &&
  (PySem.W.keepIn K (.ref C) && (decide (PySem.W.findIn K (.ref C) "__init__" = some (some (.ref fI))) && (decide (PySem.W.typeIn K (.ref fI) = some (.type "function")) && (fns.all (fun f => decide (PySem.W.findIn K (.ref C) f = some none)) && xfB K C)))))))
theorem clsB_ok {K : PySem.W.Frag} {C : Addr} (q : clsB K C = true) : ∃ nm q N bs bm sn sub ab col dd k0 k1 k2 k3 k5, K.lookup C = some (excClassObj nm q C N bs bm true sn sub ab col dd k0 k1 k2 k3 k5 "ValueError.__new__") ∧ PySem.HandSPX.refsVE bm = true := by
  unfold clsB at q
  split at q
  · rename_i dd cd sl ho
    split at q
    · rename_i C' bm k0 k1 k2 k3 n k5 hm hs
      simp only [Bool.and_eq_true, beq_iff_eq, Bool.not_eq_true'] at q
      obtain ⟨⟨⟨⟨rfl, rfl⟩, hdel⟩, hdi⟩, hr⟩ := q
      obtain ⟨nm, bs, mro, ns, qn, hd, sn, sub, ab, col, del⟩ := cd
      dsimp only at hm hdel hdi
      subst hm hdel hdi
      have hsl : sl = #[k0, k1, k2, k3, some (.builtin "ValueError.__new__"), k5] := by
        obtain ⟨l⟩ := sl
        simp only at hs
        rw [hs]
      subst hsl
      exact ⟨nm, qn, ns, bs, bm, sn, sub, ab, col, dd, k0, k1, k2, k3, k5, ho, hr⟩
    · cases q
  · cases q
theorem oexB_ok {K : PySem.W.Frag} {C fI : Addr} {fns : List Str} (h : oexB K C fI fns = true) : OexF K C fI fns := by
  unfold oexB at h
  simp only [Bool.and_eq_true, decide_eq_true_eq, List.all_eq_true] at h
  obtain ⟨h1, h2, h3, h4, h5, h6, h7, h8, h9⟩ := h
  exact ⟨⟨clsB_ok h1, h2, h3, h4, h5⟩, h6, h7, h8, xfB_ok h9⟩
/-- names with values, the last one first -/
def zipR {α : Type} : List Str → List α → List (Str × α) → List (Str × α)
  | f :: fs, v :: vs, l => zipR fs vs ((f, v) :: l)
  | _, _, l => l
theorem FReps.zipR {K : PySem.W.Frag} {F : Addr → Prop} {H : Hp} : ∀ {fns : List Str} {vs : List V} {ds : List D} {l : List (Str × V)} {m : List (Str × D)}, Reps K F H vs ds → FReps K F H l m → FReps K F H (DL.zipR fns vs l) (DL.zipR fns ds m)
  | [], _, _, _, _, _, h => h
  | _ :: _, _, _, _, _, .nil, h => h
  | _ :: _, _, _, _, _, .cons h1 h2, h => (FReps.zipR h2 (.cons h1 h) :)
/-- the promise of such an __init__ -/
def spI (C : Addr) (fns : List Str) : Sp := fun vs H Q E => ∃ (a : Addr) (ws : List V), vs = .ref a :: ws ∧ ws.length = fns.length ∧ H a = some (exo a C none) ∧ ∀ dx, H dx = none → dx ≠ a → Q .non (upd (upd H dx (exd dx (zipR fns ws []))) a (exo a C (some dx)))
structure FnI (P : Program) (wd : World) (K : PySem.W.Frag) (mg : Str → Option Value) (base : Heap) (k : Nat) (C f : Addr) (fns : List Str) : Prop where
  ex : ∃ (fd : FuncData) (ps : List Str), ps.length = fns.length + 1 ∧ FnOk P wd K mg base (L2.CX P wd) k f fd ps (spI C fns) ∧ Binds K fd ps []
section
variable {P : Program} {wd : World} {K : PySem.W.Frag} {mg : Str → Option Value} {base : Heap} {x qual f1 f2 x1 x2 : Str} {st : Stmt} {C f : Addr} {cdv : Value}
theorem fnI1 (X : OexF K C f [f1]) (F : DefAt K x qual st [] f cdv) (S : FnScope [("self" : Str), x1] [("self" : Str), x1] (defScope st))
    (hbody : ∀ (A : Around) (outer : List Env) (s : Shared) (H : Hp) (E : XK), PSs (cxOf (L2.CX P wd) P wd K mg base [("self" : Str), x1] qual (defScope st) f cdv A outer s H E) (defBody st) (tOst K f1 (tVar 0) (tVar 1)))
    (hb : ∀ (kV doc pm : Value) (an : Option Addr) (cdv ct : Value) (us : List Value), us.length = 2 → bindArgs (PySem.W.fnOf x qual (defArgs st) (defBody st) (defScope st) .none kV doc pm an cdv ct) ⟨us, []⟩ = pure ([("self" : Str), x1].zip us)) : FnI P wd K mg base 1 C f [f1] := by
  obtain ⟨oc, od, dV, kV, doc, pm, an, ct, osl, l, hd⟩ := F.ex
  have F' : FunD K x qual (defArgs st) (defBody st) (defScope st) [] [] f (PySem.W.fnOf x qual (defArgs st) (defBody st) (defScope st) dV kV doc pm an cdv ct) := ⟨⟨oc, od, dV, kV, doc, pm, an, cdv, ct, osl, rfl, l, F.cd, hd, .inl rfl⟩, F.kp⟩
  refine ⟨_, [("self" : Str), x1], rfl, fn_of (k := 0) l F.cd S (fun vs H Q E h => ?_) (fun A outer s H vs Q E hr h => ⟨_, hbody A outer s H E, ?_⟩), F'.bindsN hb⟩
  · obtain ⟨a, ws, rfl, h2, _⟩ := h
    rw [List.length_cons, h2]
    rfl
  · obtain ⟨a, ws, rfl, h2, h3, h4⟩ := h
    match ws, h2 with
    | [v], _ => exact ⟨v, rfl, .ref a, rfl, a, C, rfl, X.T, X.no f1 (by simp), .inl ⟨h3, fun dx e n => h4 dx e n⟩⟩
theorem fnI2 (X : OexF K C f [f1, f2]) (F : DefAt K x qual st [] f cdv) (S : FnScope [("self" : Str), x1, x2] [("self" : Str), x1, x2] (defScope st))
    (hbody : ∀ (A : Around) (outer : List Env) (s : Shared) (H : Hp) (E : XK), PSs (cxOf (L2.CX P wd) P wd K mg base [("self" : Str), x1, x2] qual (defScope st) f cdv A outer s H E) (defBody st) (tSeq (tOst K f1 (tVar 0) (tVar 1)) (tOst K f2 (tVar 0) (tVar 2))))
    (hb : ∀ (kV doc pm : Value) (an : Option Addr) (cdv ct : Value) (us : List Value), us.length = 3 → bindArgs (PySem.W.fnOf x qual (defArgs st) (defBody st) (defScope st) .none kV doc pm an cdv ct) ⟨us, []⟩ = pure ([("self" : Str), x1, x2].zip us)) : FnI P wd K mg base 1 C f [f1, f2] := by
  obtain ⟨oc, od, dV, kV, doc, pm, an, ct, osl, l, hd⟩ := F.ex
  have F' : FunD K x qual (defArgs st) (defBody st) (defScope st) [] [] f (PySem.W.fnOf x qual (defArgs st) (defBody st) (defScope st) dV kV doc pm an cdv ct) := ⟨⟨oc, od, dV, kV, doc, pm, an, cdv, ct, osl, rfl, l, F.cd, hd, .inl rfl⟩, F.kp⟩
  refine ⟨_, [("self" : Str), x1, x2], rfl, fn_of (k := 0) l F.cd S (fun vs H Q E h => ?_) (fun A outer s H vs Q E hr h => ⟨_, hbody A outer s H E, ?_⟩), F'.bindsN hb⟩
  · obtain ⟨a, ws, rfl, h2, _⟩ := h
    rw [List.length_cons, h2]
    rfl
  · obtain ⟨a, ws, rfl, h2, h3, h4⟩ := h
    match ws, h2 with
    | [v1, v2], _ =>
      refine ⟨v1, rfl, .ref a, rfl, a, C, rfl, X.T, X.no f1 (by simp), .inl ⟨h3, fun dx e n => ?_⟩⟩
      refine ⟨v2, rfl, .ref a, rfl, a, C, rfl, X.T, X.no f2 (by simp), .inr ⟨dx, [(f1, v1)], upd_same, (upd_ne n).trans upd_same, by simp, ?_⟩⟩
      have q := h4 dx e n
      have eq : upd (upd (upd H dx (exd dx [(f1, v1)])) a (exo a C (some dx))) dx (exd dx ((f2, v2) :: [(f1, v1)])) = upd (upd H dx (exd dx (zipR [f1, f2] [v1, v2] []))) a (exo a C (some dx)) := by
        funext b
        by_cases hb : b = dx
        · subst hb
          rw [upd_same, upd_ne n, upd_same]
          rfl
        · rw [upd_ne hb]
          by_cases ha : b = a
          · subst ha
            rw [upd_same, upd_same]
          · rw [upd_ne ha, upd_ne ha, upd_ne hb, upd_ne hb]
      show Q .non _
      rw [eq]
      exact q
end
def sRaiseF (cn : Str) (fns : List Str) (fs : Sl → Om → Out (List D)) : Sl → Om → Out Res := fun r w => (fs r w).bind fun ds w => if ds.length = fns.length ∧ ds.length ≤ 900 then .exc ⟨cn, zipR fns ds []⟩ r w else .stuck
theorem ds_raiseF {X : Cx} {T : Tbl} {W : WX} {C fI : Addr} {k : Nat} {x : Str} {fns : List Str} {pos pos' p : Pos} {e : Expr} {es : List Expr} {fs : Sl → Om → Out (List D)} (F : OexF X.K C fI fns) (Fn : FnI X.prog X.w X.K X.mg X.base k C fI fns) (room : Room (k + 1) X.A)
    (hc : X.calm = true) (tk : Takes X W) (hg : Gl X x) (hm : X.mg x = some (.ref C)) (ha : DA X T W (e :: es) fs)
    (hdb : (x == ("__debug__" : Str)) = false := by decide) (h1 : starEach (e :: es) X.env = (false, eval e X.env) :: starEach es X.env := by rfl) (h2 : (backTo pos (starEach es X.env)).any (·.1) = false := by rfl) :
    DS X T W (.Raise (some (.Call (.Name x p) (e :: es) [] pos)) none pos') (sRaiseF x fns fs) := by
  obtain ⟨fd, ps, g0, g1, g2⟩ := Fn.ex
  obtain ⟨ta, pa, ha⟩ := ha.run
  refine ⟨_, ps_raise hc tk (pmk_oex (dvs := []) F.T F.iC F.tI g1 room g2 .nil (passes_call tk (fun _ _ _ _ h => h.elim)) hg hm pa hdb h1 h2), fun G O w r s H D hK hT R hs => ?_⟩
  unfold sRaiseF at hs
  rw [Out.sat_bind] at hs
  refine ha G O w r s H _ hK hT R (hs.mono fun ds w1 q vs H1 R1 t1 p1 => ?_)
  split at q
  · rename_i hl
    refine ⟨by rw [p1.length]; omega, fun a hn => ⟨a, vs ++ [], rfl, by rw [List.append_nil, p1.length]; exact hl.1, upd_same, fun dx hdx hne => ⟨rfl, dx, _, upd_same, (upd_ne hne).trans upd_same, ?_, ?_⟩⟩⟩
    · rw [upd_ne hne] at hdx
      exact hdx
    · rw [upd_ne hne] at hdx
      obtain ⟨R2, t2⟩ := R1.new (o := .xd (zipR fns vs [])) hdx
      have eq : upd (del (upd (upd (upd H1 a (exo a C none)) dx (exd dx (zipR fns (vs ++ []) []))) a (exo a C (some dx))) a) dx (.xd (zipR fns (vs ++ []) [])) = upd H1 dx (.xd (zipR fns vs [])) := by
        rw [List.append_nil]
        funext b
        by_cases hb : b = dx
        · subst hb
          rw [upd_same, upd_same]
        · rw [upd_ne hb, upd_ne hb]
          by_cases ha : b = a
          · subst ha
            rw [del_same, hn]
          · rw [del_ne ha, upd_ne ha, upd_ne hb, upd_ne ha]
      rw [eq]
      exact q (.ref C) (some dx) O s _ R2 ⟨C, hm, rfl, .inr ⟨dx, _, rfl, upd_same, by rw [← hK]; exact FReps.zipR (Reps.tr t2.tr _ _ p1) .nil⟩⟩
  · exact q.elim
end DL

set_option Elab.async false
set_option linter.all false
set_option maxRecDepth 100000
set_option maxHeartbeats 1000000
/-! EV1: evaluation of the meanings, by simp. -/
namespace DL
open PySem PySem.Spec L2
open PyProof.Rows hiding St
@[simp] theorem ofString_inj {a b : String} : Str.ofString a = Str.ofString b ↔ a = b := by
  constructor
  · intro h
    rw [Str.ofString_eq_toList, Str.ofString_eq_toList] at h
    have h2 : a.toList.map Char.toNat = b.toList.map Char.toNat := by simpa using h
    have h3 : a.toList = b.toList := (List.map_inj_right (fun x y e => Char.toNat_inj.mp e)).mp h2
    exact String.toList_inj.mp h3
  · intro h
    rw [h]
theorem bind_congr_ {α β : Type} {o o' : Out α} {f : α → Om → Out β} (h : o = o') : o.bind f = o'.bind f := h ▸ rfl
def bcase {α : Type} (d : D) (k : Bool → Out α) : Out α := match d with
  | .bl b => k b
  | _ => .stuck
theorem bcase_congr_ {α : Type} {d d' : D} {k : Bool → Out α} (h : d = d') : bcase d k = bcase d' k := h ▸ rfl
theorem ite_congr_ {α : Type} {c c' : Prop} [Decidable c] [Decidable c'] {x y : Out α} (h : c = c') : (if c then x else y) = (if c' then x else y) := by subst h; congr
section
variable {w : Om} {r : Sl} {α β : Type}
@[simp] theorem bcase_bl {b : Bool} {k : Bool → Out α} : bcase (.bl b) k = k b := (rfl)
variable {f g h fa fb fo fi : Sl → Om → Out D} {t u : Sl → Om → Out Bool} {fs : Sl → Om → Out (List D)} {op : D → D → Om → Out D} {o1 : D → Om → Out D} {ol : List D → Om → Out D}
@[simp] theorem bind_assoc_ {γ : Type} : ∀ {o : Out α} {f : α → Om → Out β} {g : β → Om → Out γ}, (o.bind f).bind g = o.bind fun x w => (f x w).bind g
  | .stuck, _, _ => (rfl)
  | .any, _, _ => (rfl)
  | .ok _ _, _, _ => (rfl)
  | .exc _ _ _, _, _ => (rfl)
  | .new k, f, g => congrArg Out.new (funext fun a => bind_assoc_ (o := k a))
@[simp] theorem ite_bl {c : Prop} [Decidable c] {a b : Bool} : (if c then Out.ok (D.bl a) w else Out.ok (D.bl b) w) = Out.ok (D.bl (if c then a else b)) w := by split <;> rfl
@[simp] theorem ite_bool {c : Prop} [Decidable c] {a b : Bool} : (if c then Out.ok a w else Out.ok b w) = Out.ok (if c then a else b) w := by split <;> rfl
@[simp] theorem ite_bind {c : Prop} [Decidable c] {a b : Out α} {k : α → Om → Out β} : (if c then a else b).bind k = if c then a.bind k else b.bind k := by split <;> rfl
@[simp] theorem ite_calm {c : Prop} [Decidable c] {a b : Out α} : (if c then a else b).calm = if c then a.calm else b.calm := by split <;> rfl
@[simp] theorem ite_at {c : Prop} [Decidable c] {a b : Out α} {r : Sl} : (if c then a else b).at r = if c then a.at r else b.at r := by split <;> rfl
@[simp] theorem ev_var0 {d : D} {r : Sl} : eVar 0 (.p d :: r) w = .ok d w := (rfl)
@[simp] theorem ev_varS {i : Nat} {x : Slot} {r : Sl} : eVar (i + 1) (x :: r) w = eVar i r w := (rfl)
theorem ev_varG {i : Nat} {d : D} (e : r[i]? = some (.p d)) : eVar i r w = .ok d w := by unfold eVar; rw [e]
@[simp] theorem ev_own0 {d : D} {r : Sl} : eOwn 0 (.p d :: r) w = .ok d w := (rfl)
@[simp] theorem ev_own0' {l : List D} {r : Sl} : eOwn 0 (.o l :: r) w = .ok (.lst l) w := (rfl)
@[simp] theorem ev_ownS {i : Nat} {x : Slot} {r : Sl} : eOwn (i + 1) (x :: r) w = eOwn i r w := (rfl)
@[simp] theorem ev_c {d : D} : eC d r w = .ok d w := (rfl)
@[simp] theorem ev_e2 : e2 fa fb op r w = (fa r w).bind fun x w => (fb r w).bind fun y w => op x y w := (rfl)
@[simp] theorem ev_e1 : e1 f o1 r w = (f r w).bind o1 := (rfl)
@[simp] theorem ev_eB : eB fs ol r w = (fs r w).bind ol := (rfl)
@[simp] theorem ev_aNil : aNil r w = .ok [] w := (rfl)
@[simp] theorem ev_aCons : aCons f fs r w = (f r w).bind fun d w => (fs r w).bind fun ds w => .ok (d :: ds) w := (rfl)
@[simp] theorem ev_tYes : tYesD r w = .ok true w := (rfl)
theorem bcase_def {d : D} {k : Bool → Out α} : bcase d k = match d with | .bl b => k b | _ => .stuck := (rfl)
@[simp] theorem ev_asB_ok {d : D} : asB (.ok d w) = bcase d fun b => .ok b w := by
  unfold asB bcase
  cases d <;> rfl
@[simp] theorem ev_tE : tE f r w = (f r w).bind fun d w => bcase d fun b => .ok b w := (rfl)
@[simp] theorem ev_and : eAnd f g r w = (f r w).bind fun d w => bcase d fun b => if b = true then g r w else .ok (.bl false) w := by
  unfold eAnd
  congr 1
  funext d w
  cases d with
  | bl b => cases b <;> rfl
  | _ => rfl
@[simp] theorem ev_or : eOr f g r w = (f r w).bind fun d w => bcase d fun b => if b = true then .ok (.bl true) w else g r w := by
  unfold eOr
  congr 1
  funext d w
  cases d with
  | bl b => cases b <;> rfl
  | _ => rfl
@[simp] theorem ev_not : eNot f r w = (f r w).bind fun d w => bcase d fun b => .ok (.bl (!b)) w := (rfl)
@[simp] theorem ev_chain {d d' : D → D → Om → Out D} : eChain f g h d d' r w = (f r w).bind fun x w => (g r w).bind fun y w => (d x y w).bind fun z w => bcase z fun b => if b = true then (h r w).bind fun u w => d' y u w else .ok (.bl false) w := by
  unfold eChain
  congr 1
  funext x w
  congr 1
  funext y w
  congr 1
  funext z w
  cases z with
  | bl b => cases b <;> rfl
  | _ => rfl
@[simp] theorem ev_tAnd : tAnd t u r w = (t r w).bind fun b w => if b = true then u r w else .ok false w := (rfl)
@[simp] theorem ev_tOr : tOr t u r w = (t r w).bind fun b w => if b = true then .ok true w else u r w := (rfl)
@[simp] theorem ev_tNot : tNot t r w = (t r w).bind fun b w => .ok (!b) w := (rfl)
@[simp] theorem ev_eIf : eIf t f g r w = (t r w).bind fun b w => if b = true then f r w else g r w := (rfl)
def ocase (o : Option β) (k : β → Out α) : Out α := match o with
  | some b => k b
  | none => .stuck
theorem ocase_congr_ {o o' : Option β} {k : β → Out α} (h : o = o') : ocase o k = ocase o' k := h ▸ rfl
@[simp] theorem ocase_some {b : β} {k : β → Out α} : ocase (some b) k = k b := (rfl)
@[simp] theorem ocase_bind {γ : Type} {o : Option β} {k : β → Out α} {f : α → Om → Out γ} : (ocase o k).bind f = ocase o fun b => (k b).bind f := by cases o <;> rfl
@[simp] theorem bind_id : ∀ {o : Out α}, (o.bind fun x w => .ok x w) = o
  | .stuck => (rfl)
  | .any => (rfl)
  | .ok _ _ => (rfl)
  | .exc _ _ _ => (rfl)
  | .new k => congrArg Out.new (funext fun a => bind_id (o := k a))
@[simp] theorem ev_tTru : tTru f r w = (f r w).bind fun d w => ocase (D.tru d) fun b => .ok b w := by
  unfold tTru
  congr 1
  funext d w
  cases D.tru d <;> rfl
@[simp] theorem tru_bl {b : Bool} : D.tru (.bl b) = some b := (rfl)
@[simp] theorem tru_int {i : Int} : D.tru (.int i) = some (i != 0) := (rfl)
@[simp] theorem tru_non : D.tru .non = some false := (rfl)
@[simp] theorem tru_tup {l : List D} : D.tru (.tup l) = some (!l.isEmpty) := (rfl)
@[simp] theorem tru_lst {l : List D} : D.tru (.lst l) = some (!l.isEmpty) := (rfl)
/-! operators -/
@[simp] theorem ev_add {i j : Int} : dAdd (.int i) (.int j) w = .ok (.int (i + j)) w := (rfl)
@[simp] theorem ev_addT {a b : List D} : dAdd (.tup a) (.tup b) w = if a.length + b.length ≤ sizeLine then .ok (.tup (a ++ b)) w else .stuck := (rfl)
@[simp] theorem ev_addL {a b : List D} : dAdd (.lst a) (.lst b) w = if a.length + b.length ≤ sizeLine then .ok (.lst (a ++ b)) w else .stuck := (rfl)
@[simp] theorem ev_sub {i j : Int} : dSub (.int i) (.int j) w = .ok (.int (i - j)) w := (rfl)
theorem ev_mul {i j : Int} (h : (-(2 ^ 64) < i ∧ i < 2 ^ 64) ∨ (-(2 ^ 64) < j ∧ j < 2 ^ 64)) : dMul (.int i) (.int j) w = .ok (.int (i * j)) w := if_pos h
@[simp] theorem ev_mod {i j : Int} : dMod (.int i) (.int j) w = if 0 < j then .ok (.int (i % j)) w else .stuck := (rfl)
@[simp] theorem ev_fdiv {i j : Int} : dFdiv (.int i) (.int j) w = if 0 < j ∧ j < 1073741824 then .ok (.int (i / j)) w else .stuck := (rfl)
@[simp] theorem ev_neg {i : Int} : dNeg (.int i) w = .ok (.int (-i)) w := (rfl)
@[simp] theorem ev_cmpI {p : Int → Int → Bool} {i j : Int} : dCmpI p (.int i) (.int j) w = .ok (.bl (p i j)) w := (rfl)
@[simp] theorem ev_ofB {b : Bool} : ofB (some b) w = .ok (.bl b) w := (rfl)
@[simp] theorem ev_dEq {x y : D} : dEq x y w = ofB (D.eq? x y) w := (rfl)
@[simp] theorem ev_dNe {x y : D} : dNe x y w = ofB ((D.eq? x y).map (!·)) w := (rfl)
@[simp] theorem ev_dLt {x y : D} : dLt x y w = ofB (D.lt? x y) w := (rfl)
@[simp] theorem eq_int {i j : Int} : D.eq? (.int i) (.int j) = some (decide (i = j)) := (rfl)
@[simp] theorem eq_str {i j : Str} : D.eq? (.str i) (.str j) = some (decide (i = j)) := (rfl)
@[simp] theorem eq_bl {i j : Bool} : D.eq? (.bl i) (.bl j) = some (decide (i = j)) := (rfl)
@[simp] theorem eq_nn : D.eq? .non .non = some true := (rfl)
@[simp] theorem lt_int {i j : Int} : D.lt? (.int i) (.int j) = some (decide (i < j)) := (rfl)
@[simp] theorem ev_isN_non : dIs .non .non w = .ok (.bl true) w := (rfl)
@[simp] theorem ev_isN_int {i : Int} : dIs (.int i) .non w = .ok (.bl false) w := (rfl)
@[simp] theorem ev_isN_tup {l : List D} : dIs (.tup l) .non w = .ok (.bl false) w := (rfl)
@[simp] theorem ev_isN_lst {l : List D} : dIs (.lst l) .non w = .ok (.bl false) w := (rfl)
@[simp] theorem ev_isN_str {l : Str} : dIs (.str l) .non w = .ok (.bl false) w := (rfl)
@[simp] theorem ev_isN_bl {l : Bool} : dIs (.bl l) .non w = .ok (.bl false) w := (rfl)
@[simp] theorem ev_isB {a b : Bool} : dIs (.bl a) (.bl b) w = .ok (.bl (decide (a = b))) w := (rfl)
@[simp] theorem ev_isNo_non : dIsNot .non .non w = .ok (.bl false) w := (rfl)
@[simp] theorem ev_isNo_int {i : Int} : dIsNot (.int i) .non w = .ok (.bl true) w := (rfl)
@[simp] theorem ev_isNo_tup {l : List D} : dIsNot (.tup l) .non w = .ok (.bl true) w := (rfl)
@[simp] theorem ev_isNo_lst {l : List D} : dIsNot (.lst l) .non w = .ok (.bl true) w := (rfl)
@[simp] theorem ev_isNo_bl {a b : Bool} : dIsNot (.bl a) (.bl b) w = .ok (.bl (!decide (a = b))) w := (rfl)
/-! calls of builtins -/
@[simp] theorem ev_lenT {l : List D} : cLen [.tup l] w = .ok (.int l.length) w := (rfl)
@[simp] theorem ev_lenL {l : List D} : cLen [.lst l] w = .ok (.int l.length) w := (rfl)
@[simp] theorem ev_lenF {l : List D} : cLen [.fl l] w = .ok (.int l.length) w := (rfl)
@[simp] theorem ev_tupT {l : List D} : cTuple [.tup l] w = .ok (.tup l) w := (rfl)
@[simp] theorem ev_tupL {l : List D} : cTuple [.lst l] w = .ok (.tup l) w := (rfl)
@[simp] theorem ev_lstT {l : List D} : cList [.tup l] w = .ok (.lst l) w := (rfl)
@[simp] theorem ev_lstL {l : List D} : cList [.lst l] w = .ok (.lst l) w := (rfl)
@[simp] theorem ev_intI {i : Int} : cInt [.int i] w = .ok (.int i) w := (rfl)
@[simp] theorem ev_intB {b : Bool} : cInt [.bl b] w = .ok (.int (if b then 1 else 0)) w := (rfl)
theorem ints_map : ∀ ns : List Int, D.ints? (ns.map .int) = some ns
  | [] => rfl
  | n :: ns => by
    rw [List.map_cons]
    unfold D.ints?
    rw [ints_map ns]
    rfl
theorem ev_sum {ns : List Int} : cSum [.lst (ns.map .int)] w = .ok (.int ns.sum) w := by
  unfold cSum
  dsimp only
  rw [ints_map]
@[simp] theorem ty_non : D.ty .non = some "NoneType" := (rfl)
@[simp] theorem ty_bl' {b : Bool} : D.ty (.bl b) = some "bool" := (rfl)
@[simp] theorem ty_int' {b : Int} : D.ty (.int b) = some "int" := (rfl)
@[simp] theorem ty_str' {b : Str} : D.ty (.str b) = some "str" := (rfl)
@[simp] theorem ty_tup' {b : List D} : D.ty (.tup b) = some "tuple" := (rfl)
@[simp] theorem ty_lst' {b : List D} : D.ty (.lst b) = some "list" := (rfl)
@[simp] theorem ty_fl' {b : List D} : D.ty (.fl b) = some "list" := (rfl)
@[simp] theorem ev_isi {u : String} {d : D} : cIsi u d w = ocase ((D.ty d).bind fun t => tyIs t u) fun b => .ok (.bl b) w := by
  unfold cIsi
  cases (D.ty d).bind fun t => tyIs t u <;> rfl
@[simp] theorem ev_isi2 {u v : String} {d : D} : cIsi2 u v d w = ocase ((D.ty d).bind fun t => tyIs t u) fun b => ocase ((D.ty d).bind fun t => tyIs t v) fun c => .ok (.bl (b || c)) w := by
  unfold cIsi2
  cases (D.ty d).bind fun t => tyIs t u <;> cases (D.ty d).bind fun t => tyIs t v <;> rfl
@[simp] theorem ti1 : tyIs "int" "int" = some true := ty_int.1
@[simp] theorem ti2 : tyIs "bool" "int" = some true := ty_int.2.1
@[simp] theorem ti3 : tyIs "str" "int" = some false := ty_int.2.2.1
@[simp] theorem ti4 : tyIs "NoneType" "int" = some false := ty_int.2.2.2.1
@[simp] theorem ti5 : tyIs "tuple" "int" = some false := ty_int.2.2.2.2.1
@[simp] theorem ti6 : tyIs "list" "int" = some false := ty_int.2.2.2.2.2
@[simp] theorem tb1 : tyIs "int" "bool" = some false := ty_bool.1
@[simp] theorem tb2 : tyIs "bool" "bool" = some true := ty_bool.2.1
@[simp] theorem tb3 : tyIs "str" "bool" = some false := ty_bool.2.2.1
@[simp] theorem tb4 : tyIs "NoneType" "bool" = some false := ty_bool.2.2.2.1
@[simp] theorem tb5 : tyIs "tuple" "bool" = some false := ty_bool.2.2.2.2.1
@[simp] theorem tb6 : tyIs "list" "bool" = some false := ty_bool.2.2.2.2.2
@[simp] theorem ts1 : tyIs "int" "str" = some false := ty_str.1
@[simp] theorem ts2 : tyIs "bool" "str" = some false := ty_str.2.1
@[simp] theorem ts3 : tyIs "str" "str" = some true := ty_str.2.2.1
@[simp] theorem ts4 : tyIs "NoneType" "str" = some false := ty_str.2.2.2.1
@[simp] theorem ts5 : tyIs "tuple" "str" = some false := ty_str.2.2.2.2.1
@[simp] theorem ts6 : tyIs "list" "str" = some false := ty_str.2.2.2.2.2
@[simp] theorem tt1 : tyIs "int" "tuple" = some false := ty_tuple.1
@[simp] theorem tt2 : tyIs "bool" "tuple" = some false := ty_tuple.2.1
@[simp] theorem tt3 : tyIs "str" "tuple" = some false := ty_tuple.2.2.1
@[simp] theorem tt4 : tyIs "NoneType" "tuple" = some false := ty_tuple.2.2.2.1
@[simp] theorem tt5 : tyIs "tuple" "tuple" = some true := ty_tuple.2.2.2.2.1
@[simp] theorem tt6 : tyIs "list" "tuple" = some false := ty_tuple.2.2.2.2.2
@[simp] theorem tl1 : tyIs "int" "list" = some false := ty_list.1
@[simp] theorem tl2 : tyIs "bool" "list" = some false := ty_list.2.1
@[simp] theorem tl3 : tyIs "str" "list" = some false := ty_list.2.2.1
@[simp] theorem tl4 : tyIs "NoneType" "list" = some false := ty_list.2.2.2.1
@[simp] theorem tl5 : tyIs "tuple" "list" = some false := ty_list.2.2.2.2.1
@[simp] theorem tl6 : tyIs "list" "list" = some true := ty_list.2.2.2.2.2
@[simp] theorem ev_tup : eTup fs r w = (fs r w).bind fun ds w => if ds.length ≤ sizeLine then .ok (.tup ds) w else .stuck := (rfl)
@[simp] theorem ev_lst : eLst fs r w = (fs r w).bind fun ds w => if ds.length ≤ sizeLine then .ok (.lst ds) w else .stuck := (rfl)
/-! places -/
@[simp] theorem ev_ixT {l : List D} {i : Int} : dIx (.tup l) (.int i) w = ocase (atI l i) fun d => .ok d w := by
  show (match atI l i with | some d => Out.ok d w | none => .stuck) = _
  cases atI l i <;> rfl
@[simp] theorem ev_ixL {l : List D} {i : Int} : dIx (.lst l) (.int i) w = ocase (atI l i) fun d => .ok d w := by
  show (match atI l i with | some d => Out.ok d w | none => .stuck) = _
  cases atI l i <;> rfl
@[simp] theorem ev_ixF {l : List D} {i : Int} : dIx (.fl l) (.int i) w = ocase (atI l i) fun d => .ok d w := by
  show (match atI l i with | some d => Out.ok d w | none => .stuck) = _
  cases atI l i <;> rfl
theorem atI_nat {α : Type} {l : List α} {i : Nat} (h : i < l.length) : atI l (i : Int) = l[i]? := by
  unfold atI ixN
  rw [if_pos (by omega), if_pos (by omega)]
  simp
theorem atI_int {α : Type} {l : List α} {i : Int} (h0 : 0 ≤ i) (h : i < l.length) : atI l i = l[i.toNat]? := by
  unfold atI ixN
  rw [if_pos h0, if_pos h]
  rfl
theorem atI_last {α : Type} {l : List α} (h : l ≠ []) : atI l (-1) = l.getLast? := by
  have : 0 < l.length := List.length_pos_iff.mpr h
  unfold atI ixN
  rw [if_neg (by omega), if_pos (by omega)]
  rw [List.getLast?_eq_getElem?]
  show l[(-1 + (l.length : Int)).toNat]? = _
  congr 1
  omega
@[simp] theorem atI_00 {α : Type} {a : α} {l : List α} : atI (a :: l) 0 = some a := by
  rw [show (0 : Int) = ((0 : Nat) : Int) from rfl, atI_nat (by simp)]
  rfl
@[simp] theorem atI_1 {α : Type} {a b : α} {l : List α} : atI (a :: b :: l) 1 = some b := by
  rw [show (1 : Int) = ((1 : Nat) : Int) from rfl, atI_nat (by simp)]
  rfl
@[simp] theorem atI_2 {α : Type} {a b c : α} {l : List α} : atI (a :: b :: c :: l) 2 = some c := by
  rw [show (2 : Int) = ((2 : Nat) : Int) from rfl, atI_nat (by simp)]
  rfl
@[simp] theorem atI_3 {α : Type} {a b c d : α} {l : List α} : atI (a :: b :: c :: d :: l) 3 = some d := by
  rw [show (3 : Int) = ((3 : Nat) : Int) from rfl, atI_nat (by simp)]
  rfl
@[simp] theorem atI_4 {α : Type} {a b c d e : α} {l : List α} : atI (a :: b :: c :: d :: e :: l) 4 = some e := by
  rw [show (4 : Int) = ((4 : Nat) : Int) from rfl, atI_nat (by simp)]
  rfl
@[simp] theorem atI_5 {α : Type} {a b c d e f : α} {l : List α} : atI (a :: b :: c :: d :: e :: f :: l) 5 = some f := by
  rw [show (5 : Int) = ((5 : Nat) : Int) from rfl, atI_nat (by simp)]
  rfl
@[simp] theorem atI_6 {α : Type} {a b c d e f g : α} {l : List α} : atI (a :: b :: c :: d :: e :: f :: g :: l) 6 = some g := by
  rw [show (6 : Int) = ((6 : Nat) : Int) from rfl, atI_nat (by simp)]
  rfl
@[simp] theorem atI_m1 {α : Type} {a : α} : atI [a] (-1) = some a := (rfl)
@[simp] theorem atI_m2 {α : Type} {a b : α} : atI [a, b] (-1) = some b := (rfl)
@[simp] theorem ixN_0 {n : Nat} : ixN (n + 1) 0 = some 0 := by unfold ixN; rw [if_pos (by omega), if_pos (by omega)]; rfl
theorem ixN_nat {n i : Nat} (h : i < n) : ixN n (i : Int) = some i := by unfold ixN; rw [if_pos (by omega), if_pos (by omega)]; rfl
/-! statements -/
@[simp] theorem ev_sNil : sNil r w = .ok (.nx r) w := (rfl)
@[simp] theorem ev_sPass : sPass r w = .ok (.nx r) w := (rfl)
def rcase (res : Res) (k : Sl → Out Res) (w : Om) : Out Res := match res with
  | .nx r' => k r'
  | res => .ok res w
theorem rcase_congr_ {res res' : Res} {k : Sl → Out Res} (h : res = res') : rcase res k w = rcase res' k w := h ▸ rfl
@[simp] theorem rcase_nx {k : Sl → Out Res} : rcase (.nx r) k w = k r := (rfl)
@[simp] theorem rcase_rt {k : Sl → Out Res} {d : D} : rcase (.rt d) k w = .ok (.rt d) w := (rfl)
@[simp] theorem rcase_bk {k : Sl → Out Res} : rcase (.bk r) k w = .ok (.bk r) w := (rfl)
@[simp] theorem rcase_ct {k : Sl → Out Res} : rcase (.ct r) k w = .ok (.ct r) w := (rfl)
variable {s s' : Sl → Om → Out Res}
@[simp] theorem ev_sCons : sCons s s' r w = (s r w).bind fun res w => rcase res (fun r' => s' r' w) w := by
  unfold sCons
  congr 1
@[simp] theorem ev_sExpr : sExpr f r w = (f r w).bind fun _ w => .ok (.nx r) w := (rfl)
@[simp] theorem ev_sRet : sRet f r w = (f r w).bind fun d w => .ok (.rt d) w := (rfl)
@[simp] theorem ev_sRetN : sRetN r w = .ok (.rt .non) w := (rfl)
@[simp] theorem ev_sIf : sIf t s s' r w = (t r w).bind fun b w => if b = true then s r w else s' r w := (rfl)
@[simp] theorem ev_seP : seP f r w = (f r w).bind fun d w => .ok (.p d) w := (rfl)
@[simp] theorem ev_seL : seL fs r w = (fs r w).bind fun ds w => if ds.length ≤ sizeLine then .ok (.o ds) w else .stuck := (rfl)
@[simp] theorem ev_sAsg {i : Nat} {f : Sl → Om → Out Slot} : sAsg i f r w = (f r w).bind fun d w => .ok (.nx (r.set i d)) w := (rfl)
def fnK (res : Res) (w : Om) : Out D := match res with
  | .rt d => .ok d w
  | .nx _ => .ok .non w
  | _ => .stuck
@[simp] theorem fnK_rt {d : D} : fnK (.rt d) w = .ok d w := (rfl)
@[simp] theorem fnK_nx : fnK (.nx r) w = .ok .non w := (rfl)
@[simp] theorem ev_fnD {n : Nat} {g : Sl → Om → Out Res} {ds : List D} : fnD n g ds w = (g (ds.map .p ++ List.replicate (n - ds.length) .no) w).bind fnK := by
  unfold fnD slots0
  congr 1
/-! targets -/
@[simp] theorem ev_bName {i : Nat} {d : D} : bName i d r = some (r.set i (.p d)) := (rfl)
@[simp] theorem ev_bNil : bNil [] r = some r := (rfl)
@[simp] theorem ev_bCons {b : D → Sl → Option Sl} {c : List D → Sl → Option Sl} {d : D} {ds : List D} : bCons b c (d :: ds) r = (b d r).bind (c ds) := (rfl)
@[simp] theorem ev_bTup {n : Nat} {c : List D → Sl → Option Sl} {l : List D} : bTup n c (.tup l) r = if l.length = n then c l r else none := (rfl)
@[simp] theorem ev_wipe0 : wipeD r [] = r := (rfl)
@[simp] theorem ev_wipeS {v : Nat} {vs : List Nat} : wipeD r (v :: vs) = (wipeD r vs).set v .no := (rfl)
/-! iterables -/
@[simp] theorem items_tup {l : List D} : D.items (.tup l) = some l := (rfl)
@[simp] theorem items_lst {l : List D} : D.items (.lst l) = some l := (rfl)
@[simp] theorem items_fl {l : List D} : D.items (.fl l) = some l := (rfl)
@[simp] theorem ev_iSeq : iSeq f r w = (f r w).bind fun d w => ocase (D.items d) fun l => .ok l w := by
  unfold iSeq
  congr 1
  funext d w
  cases D.items d <;> rfl
def rng1 (ds : List D) (w : Om) : Out (List D) := match ds with
  | [.int j] => if -(2 ^ 62) ≤ j ∧ j < 2 ^ 62 then .ok (rngD 0 j.toNat) w else .stuck
  | _ => .stuck
@[simp] theorem rng1_int {j : Int} : rng1 [.int j] w = if -(2 ^ 62) ≤ j ∧ j < 2 ^ 62 then .ok (rngD 0 j.toNat) w else .stuck := (rfl)
@[simp] theorem ev_iR1 : iR1 fs r w = (fs r w).bind rng1 := (rfl)
def rng2 (ds : List D) (w : Om) : Out (List D) := match ds with
  | [.int i, .int j] => if -(2 ^ 62) ≤ i ∧ i < 2 ^ 62 ∧ -(2 ^ 62) ≤ j ∧ j < 2 ^ 62 then .ok (rngD i (j - i).toNat) w else .stuck
  | _ => .stuck
@[simp] theorem rng2_int {i j : Int} : rng2 [.int i, .int j] w = if -(2 ^ 62) ≤ i ∧ i < 2 ^ 62 ∧ -(2 ^ 62) ≤ j ∧ j < 2 ^ 62 then .ok (rngD i (j - i).toNat) w else .stuck := (rfl)
@[simp] theorem ev_iR2 : iR2 fs r w = (fs r w).bind rng2 := (rfl)
def zip2 (ds : List D) (w : Om) : Out (List D) := match ds with
  | [x, y] => ocase (D.items x) fun l => ocase (D.items y) fun m => .ok (zipD l m) w
  | _ => .stuck
@[simp] theorem zip2_of {x y : D} : zip2 [x, y] w = ocase (D.items x) fun l => ocase (D.items y) fun m => .ok (zipD l m) w := (rfl)
@[simp] theorem ev_iZip : iZip fs r w = (fs r w).bind zip2 := by
  unfold iZip
  congr 1
  funext ds w
  match ds with
  | [] => rfl
  | [x] => rfl
  | [x, y] =>
    rw [zip2_of]
    dsimp only
    cases D.items x <;> cases D.items y <;> rfl
  | x :: y :: z :: l => rfl
def enum1 (ds : List D) (w : Om) : Out (List D) := match ds with
  | [x] => ocase (D.items x) fun l => .ok (enumD 0 l) w
  | _ => .stuck
@[simp] theorem enum1_of {x : D} : enum1 [x] w = ocase (D.items x) fun l => .ok (enumD 0 l) w := (rfl)
@[simp] theorem ev_iEnum : iEnum fs r w = (fs r w).bind enum1 := by
  unfold iEnum
  congr 1
  funext ds w
  match ds with
  | [] => rfl
  | [x] =>
    rw [enum1_of]
    dsimp only
    cases D.items x <;> rfl
  | x :: y :: l => rfl
/-! comprehensions, all -/
@[simp] theorem ev_seLc {vs : List Nat} {fi : Sl → Om → Out (List D)} {bd : D → Sl → Option Sl} : seLc vs fi bd t f r w = (fi r w).bind fun ds w => if ds.length ≤ sizeLine then (lcGo bd t f (wipeD r vs) ds w).bind fun ys w => .ok (.o ys) w else .stuck := (rfl)
def relK (s : Slot) (w : Om) : Out D := match s with
  | .o l => .ok (.lst l) w
  | .p d => .ok d w
  | .no => .stuck
@[simp] theorem relK_o {l : List D} : relK (.o l) w = .ok (.lst l) w := (rfl)
@[simp] theorem relK_p {d : D} : relK (.p d) w = .ok d w := (rfl)
@[simp] theorem ev_eRel {fs : Sl → Om → Out Slot} : eRel fs r w = (fs r w).bind relK := by
  unfold eRel
  congr 1
@[simp] theorem ev_eAll {vs : List Nat} {fi : Sl → Om → Out (List D)} {bd : D → Sl → Option Sl} : eAll vs fi bd f r w = (fi r w).bind fun ds w => allGo bd f (wipeD r vs) ds w := (rfl)
/-- a comprehension without effects -/
theorem lcGo_map {bd : D → Sl → Option Sl} {ds : List D} (F : D → D) (h : ∀ d ∈ ds, ∃ r1, bd d r = some r1 ∧ t r1 w = .ok true w ∧ f r1 w = .ok (F d) w) : lcGo bd t f r ds w = .ok (ds.map F) w := by
  induction ds with
  | nil => rfl
  | cons d ds ih =>
    obtain ⟨r1, h1, h2, h3⟩ := h d (List.mem_cons_self ..)
    unfold lcGo
    rw [h1]
    dsimp only
    have e2 := ih fun e he => h e (List.mem_cons_of_mem _ he)
    simp [h2, h3, e2]
theorem lcGo_filter {bd : D → Sl → Option Sl} {ds : List D} (P : D → Bool) (F : D → D) (h : ∀ d ∈ ds, ∃ r1, bd d r = some r1 ∧ t r1 w = .ok (P d) w ∧ (P d = true → f r1 w = .ok (F d) w)) : lcGo bd t f r ds w = .ok ((ds.filter P).map F) w := by
  induction ds with
  | nil => rfl
  | cons d ds ih =>
    obtain ⟨r1, h1, h2, h3⟩ := h d (List.mem_cons_self ..)
    unfold lcGo
    rw [h1]
    dsimp only
    have e2 := ih fun e he => h e (List.mem_cons_of_mem _ he)
    cases e : P d with
    | true => simp [h2, h3 e, e2, e]
    | false => simp [h2, e2, e]
theorem allGo_all {bd : D → Sl → Option Sl} {ds : List D} (P : D → Bool) (h : ∀ d ∈ ds, ∃ r1, bd d r = some r1 ∧ f r1 w = .ok (.bl (P d)) w) : allGo bd f r ds w = .ok (.bl (ds.all P)) w := by
  induction ds with
  | nil => rfl
  | cons d ds ih =>
    obtain ⟨r1, h1, h2⟩ := h d (List.mem_cons_self ..)
    unfold allGo
    rw [h1]
    dsimp only
    have e2 := ih fun e he => h e (List.mem_cons_of_mem _ he)
    cases e : P d <;> simp [h2, e2, e]
theorem lcGo_E {bd : D → Sl → Option Sl} {l : List α} {E : α → D} (F : α → D) (h : ∀ a ∈ l, ∃ r1, bd (E a) r = some r1 ∧ t r1 w = .ok true w ∧ f r1 w = .ok (F a) w) : lcGo bd t f r (l.map E) w = .ok (l.map F) w := by
  induction l with
  | nil => rfl
  | cons d ds ih =>
    obtain ⟨r1, h1, h2, h3⟩ := h d (List.mem_cons_self ..)
    rw [List.map_cons]
    unfold lcGo
    rw [h1]
    dsimp only
    have e2 := ih fun e he => h e (List.mem_cons_of_mem _ he)
    simp [h2, h3, e2]
theorem lcGo_Ef {bd : D → Sl → Option Sl} {l : List α} {E : α → D} (P : α → Bool) (F : α → D) (h : ∀ a ∈ l, ∃ r1, bd (E a) r = some r1 ∧ t r1 w = .ok (P a) w ∧ (P a = true → f r1 w = .ok (F a) w)) : lcGo bd t f r (l.map E) w = .ok ((l.filter P).map F) w := by
  induction l with
  | nil => rfl
  | cons d ds ih =>
    obtain ⟨r1, h1, h2, h3⟩ := h d (List.mem_cons_self ..)
    rw [List.map_cons]
    unfold lcGo
    rw [h1]
    dsimp only
    have e2 := ih fun e he => h e (List.mem_cons_of_mem _ he)
    cases e : P d with
    | true => simp [h2, h3 e, e2, e]
    | false => simp [h2, e2, e]
theorem allGo_E {bd : D → Sl → Option Sl} {l : List α} {E : α → D} (P : α → Bool) (h : ∀ a ∈ l, ∃ r1, bd (E a) r = some r1 ∧ f r1 w = .ok (.bl (P a)) w) : allGo bd f r (l.map E) w = .ok (.bl (l.all P)) w := by
  induction l with
  | nil => rfl
  | cons d ds ih =>
    obtain ⟨r1, h1, h2⟩ := h d (List.mem_cons_self ..)
    rw [List.map_cons]
    unfold allGo
    rw [h1]
    dsimp only
    have e2 := ih fun e he => h e (List.mem_cons_of_mem _ he)
    cases e : P d <;> simp [h2, e2, e]
theorem forGo_nil {bd : D → Sl → Option Sl} : forGo bd s [] r w = .ok (.nx r) w := (rfl)
theorem forGo_cons {bd : D → Sl → Option Sl} {d : D} {ds : List D} {r1 : Sl} (h : bd d r = some r1) : forGo bd s (d :: ds) r w = (s r1 w).bind fun res w => match res with
      | .nx r2 => forGo bd s ds r2 w
      | .ct r2 => forGo bd s ds r2 w
      | .bk r2 => .ok (.nx r2) w
      | .rt d => .ok (.rt d) w := by
  conv => lhs; unfold forGo
  first
    | (rw [h]; done)
    | (rw [h]; rfl)
@[simp] theorem ev_sFor {fi : Sl → Om → Out (List D)} {bd : D → Sl → Option Sl} : sFor fi bd s r w = (fi r w).bind fun ds w => forGo bd s ds r w := (rfl)
def forK (bd : D → Sl → Option Sl) (s : Sl → Om → Out Res) (ds : List D) (res : Res) (w : Om) : Out Res := match res with
  | .nx r2 => forGo bd s ds r2 w
  | .ct r2 => forGo bd s ds r2 w
  | .bk r2 => .ok (.nx r2) w
  | .rt d => .ok (.rt d) w
@[simp] theorem forK_nx {bd : D → Sl → Option Sl} {ds : List D} : forK bd s ds (.nx r) w = forGo bd s ds r w := (rfl)
@[simp] theorem forK_ct {bd : D → Sl → Option Sl} {ds : List D} : forK bd s ds (.ct r) w = forGo bd s ds r w := (rfl)
@[simp] theorem forK_bk {bd : D → Sl → Option Sl} {ds : List D} : forK bd s ds (.bk r) w = .ok (.nx r) w := (rfl)
@[simp] theorem forK_rt {bd : D → Sl → Option Sl} {ds : List D} {d : D} : forK bd s ds (.rt d) w = .ok (.rt d) w := (rfl)
theorem forK_congr_ {bd : D → Sl → Option Sl} {ds : List D} {x y : Res} (h : x = y) : forK bd s ds x w = forK bd s ds y w := h ▸ rfl
theorem forGo_cons' {bd : D → Sl → Option Sl} {d : D} {ds : List D} {r1 : Sl} (h : bd d r = some r1) : forGo bd s (d :: ds) r w = (s r1 w).bind (forK bd s ds) := forGo_cons h
@[simp] theorem forGo_nil' {bd : D → Sl → Option Sl} : forGo bd s [] r w = .ok (.nx r) w := (rfl)
/-- a loop without effects, by an invariant -/
theorem forGo_eq {bd : D → Sl → Option Sl} {ds : List D} (I : Nat → Sl → Prop) (h0 : I 0 r) (h : ∀ i d r, ds[i]? = some d → I i r → ∃ r1 r2, bd d r = some r1 ∧ s r1 w = .ok (.nx r2) w ∧ I (i + 1) r2) : ∃ r', forGo bd s ds r w = .ok (.nx r') w ∧ I ds.length r' := by
  induction ds generalizing r I with
  | nil => exact ⟨r, rfl, h0⟩
  | cons d ds ih =>
    obtain ⟨r1, r2, h1, h2, h3⟩ := h 0 d r rfl h0
    obtain ⟨r', h4, h5⟩ := ih (r := r2) (fun i => I (i + 1)) h3 fun i e q he hi => h (i + 1) e q (by simpa using he) hi
    refine ⟨r', ?_, h5⟩
    rw [forGo_cons h1, h2]
    exact h4
/-- a loop without effects, as a fold -/
theorem forGo_fold {σ : Type} {bd : D → Sl → Option Sl} {l : List α} {E : α → D} (S : σ → Sl → Prop) (F : σ → α → σ) {s0 : σ} (h0 : S s0 r) (h : ∀ x a r, a ∈ l → S x r → ∃ r1 r2, bd (E a) r = some r1 ∧ s r1 w = .ok (.nx r2) w ∧ S (F x a) r2) : ∃ r', forGo bd s (l.map E) r w = .ok (.nx r') w ∧ S (l.foldl F s0) r' := by
  induction l generalizing r s0 with
  | nil => exact ⟨r, rfl, h0⟩
  | cons d ds ih =>
    obtain ⟨r1, r2, h1, h2, h3⟩ := h s0 d r (List.mem_cons_self ..) h0
    obtain ⟨r', h4, h5⟩ := ih (r := r2) (s0 := F s0 d) h3 fun x a r ha hx => h x a r (List.mem_cons_of_mem _ ha) hx
    refine ⟨r', ?_, h5⟩
    rw [List.map_cons, forGo_cons h1, h2]
    exact h4
def OkN (o : Out Res) (w : Om) (P : Sl → Prop) : Prop := ∃ r, o = .ok (.nx r) w ∧ P r
@[simp] theorem okN_nx {P : Sl → Prop} : OkN (.ok (.nx r) w) w P ↔ P r := ⟨fun ⟨r', h, k⟩ => by cases h; exact k, fun h => ⟨r, rfl, h⟩⟩
theorem okN_congr_ {o o' : Out Res} {P : Sl → Prop} (h : o = o') : OkN o w P = OkN o' w P := h ▸ rfl
theorem forGo_Z {σ : Type} {bd : D → Sl → Option Sl} {l : List α} {E : α → D} {k : Res → Om → Out β} (Z : Out β → Prop) (S : σ → Sl → Prop) (F : σ → α → σ) (s0 : σ) (h0 : S s0 r) (h : ∀ x a r, a ∈ l → S x r → OkN (ocase (bd (E a) r) fun r1 => s r1 w) w (S (F x a)))
    (hk : ∀ r', S (l.foldl F s0) r' → Z (k (.nx r') w)) : Z ((forGo bd s (l.map E) r w).bind k) := by
  obtain ⟨r', h1, h2⟩ := forGo_fold (w := w) (r := r) (bd := bd) (s := s) (l := l) (E := E) S F h0 fun x a r ha hx => by
    obtain ⟨r2, e, hs⟩ := h x a r ha hx
    cases q : bd (E a) r with
    | none => rw [q] at e; cases e
    | some r1 => rw [q] at e; exact ⟨r1, r2, rfl, e, hs⟩
  rw [h1]
  exact hk r' h2
theorem forGo_B {σ : Type} {bd : D → Sl → Option Sl} {l : List α} {E : α → D} {k : Res → Om → Out β} {X : Out β} (S : σ → Sl → Prop) (F : σ → α → σ) (s0 : σ) (h0 : S s0 r) (h : ∀ x a r, a ∈ l → S x r → OkN (ocase (bd (E a) r) fun r1 => s r1 w) w (S (F x a)))
    (hk : ∀ r', S (l.foldl F s0) r' → k (.nx r') w = X) : (forGo bd s (l.map E) r w).bind k = X := forGo_Z (fun o => o = X) S F s0 h0 h hk
theorem forGo_N {σ : Type} {bd : D → Sl → Option Sl} {l : List α} {E : α → D} {k : Res → Om → Out Res} {w' : Om} {P : Sl → Prop} (S : σ → Sl → Prop) (F : σ → α → σ) (s0 : σ) (h0 : S s0 r) (h : ∀ x a r, a ∈ l → S x r → OkN (ocase (bd (E a) r) fun r1 => s r1 w) w (S (F x a)))
    (hk : ∀ r', S (l.foldl F s0) r' → OkN (k (.nx r') w) w' P) : OkN ((forGo bd s (l.map E) r w).bind k) w' P := forGo_Z (fun o => OkN o w' P) S F s0 h0 h hk
/-- calls -/
@[simp] theorem ev_call {n : Nat} {m : List D → Om → Out D} {dd : List D} : eCallN n m dd fs r w = (fs r w).bind fun ds w => if ds.length + dd.length = n then (m (ds ++ dd) w).at r else .stuck := (rfl)
@[simp] theorem ev_seSort {b : Bool} : seSort b fs r w = (fs r w).bind fun ds w => match ds with
  | [d] => ocase ((D.ls? d).bind fun l => l.mapM D.row?) fun nss => if [] ∈ nss then .stuck else .ok (.o ((sortRows b nss).map rowD)) w
  | _ => .stuck := by
  unfold seSort
  congr 1
  funext ds w
  match ds with
  | [] => rfl
  | [d] =>
    dsimp only
    cases (D.ls? d).bind fun l => l.mapM D.row? <;> rfl
  | x :: y :: l => rfl
@[simp] theorem ls_lst {l : List D} : D.ls? (.lst l) = some l := (rfl)
@[simp] theorem ls_fl {l : List D} : D.ls? (.fl l) = some l := (rfl)
@[simp] theorem ev_dIn {x y : D} : dIn x y w = ofB (D.in? x y) w := (rfl)
@[simp] theorem ev_dNotIn {x y : D} : dNotIn x y w = ofB ((D.in? x y).map (!·)) w := (rfl)
def dictK (ks : List Str) (ds : List D) (k : D) (w : Om) : Out D := match k with
  | .str z => ocase ((ks.zip ds).lookup z) fun d => .ok d w
  | _ => .stuck
@[simp] theorem dictK_str {ks : List Str} {ds : List D} {z : Str} : dictK ks ds (.str z) w = ocase ((ks.zip ds).lookup z) fun d => .ok d w := (rfl)
@[simp] theorem ev_eDict {ks : List Str} {fk : Sl → Om → Out D} : eDict ks fs fk r w = (fs r w).bind fun ds w => (fk r w).bind fun k w => dictK ks ds k w := by
  unfold eDict
  congr 1
  funext ds w
  congr 1
  funext k w
  cases k <;> (try rfl)
  rename_i z
  show _ = ocase ((ks.zip ds).lookup z) fun d => .ok d w
  dsimp only
  cases (ks.zip ds).lookup z <;> rfl
@[simp] theorem lookup_ofs {a b : String} {d : β} {l : List (Str × β)} : List.lookup (Str.ofString a) ((Str.ofString b, d) :: l) = if a = b then some d else List.lookup (Str.ofString a) l := by
  rw [List.lookup_cons]
  by_cases e : a = b
  · subst e
    simp
  · rw [if_neg e]
    have : (Str.ofString a == Str.ofString b) = false := by
      rw [beq_eq_false_iff_ne]
      exact fun z => e (ofString_inj.mp z)
    rw [this]
end
end DL

set_option Elab.async false
set_option linter.all false
set_option maxRecDepth 100000
set_option maxHeartbeats 1000000
/-! EV2: rows as data. -/
namespace DL
open PySem PySem.Spec L2
open PyProof.Rows hiding St
/-- a row's number, as data -/
abbrev fd {p : Nat} (a : Fin p) : D := .int (a.val : Int)
def row {p : Nat} (x : LA.Vc p) : D := .tup (x.map fd)
def tab {p : Nat} (t : List (LA.Vc p)) : D := .tup (t.map row)
section
variable {p : Nat} [hp : LA.Pr p] {w : Om}
open LA
theorem p_pos : 0 < p := by have := pr_gt p; omega
theorem p_pos' : (0 : Int) < (p : Int) := by have := pr_gt p; omega
theorem p_le7 : (p : Int) ≤ 7 := by have := pr_lt p; omega
/-- a whole number modulo the prime -/
def fi (p : Nat) [LA.Pr p] (i : Int) : Fin p := ⟨(i % p).toNat, by have := p_pos' (p := p); have := Int.emod_nonneg i (show (p : Int) ≠ 0 by omega); have := Int.emod_lt_of_pos i (show (0 : Int) < p by omega); omega⟩
theorem fi_val (i : Int) : ((fi p i).val : Int) = i % p := by
  have := p_pos' (p := p)
  have := Int.emod_nonneg i (show (p : Int) ≠ 0 by omega)
  show ((i % p).toNat : Int) = _
  omega
theorem fin_emod (a : Fin p) : (a.val : Int) % p = a.val := Int.emod_eq_of_lt (by omega) (by have := a.isLt; omega)
theorem fi_of (a : Fin p) : fi p (a.val : Int) = a := by
  apply Fin.ext
  have := fi_val (p := p) (a.val : Int)
  rw [fin_emod] at this
  omega
theorem fi_eq {i j : Int} (h : i % p = j % p) : fi p i = fi p j := by
  apply Fin.ext
  have h1 := fi_val (p := p) i
  have h2 := fi_val (p := p) j
  omega
theorem fi_add (i j : Int) : fi p (i + j) = fi p i + fi p j := by
  apply Fin.ext
  have h1 := fi_val (p := p) (i + j)
  have h2 := fi_val (p := p) i
  have h3 := fi_val (p := p) j
  rw [Int.add_emod, ← h2, ← h3] at h1
  rw [Fin.val_add]
  have e : ((((fi p i).val + (fi p j).val) % p : Nat) : Int) = (((fi p i).val : Int) + ((fi p j).val : Int)) % (p : Int) := by
    rw [Int.natCast_emod, Int.natCast_add]
  omega
theorem fi_mul (i j : Int) : fi p (i * j) = fi p i * fi p j := by
  apply Fin.ext
  have h1 := fi_val (p := p) (i * j)
  have h2 := fi_val (p := p) i
  have h3 := fi_val (p := p) j
  rw [Int.mul_emod, ← h2, ← h3] at h1
  rw [Fin.val_mul]
  have e : ((((fi p i).val * (fi p j).val) % p : Nat) : Int) = (((fi p i).val : Int) * ((fi p j).val : Int)) % (p : Int) := by
    rw [Int.natCast_emod, Int.natCast_mul]
  omega
theorem fi_0 : fi p 0 = 0 := by
  apply Fin.ext
  have h1 := fi_val (p := p) 0
  simp at h1 ⊢
  exact h1
theorem fi_neg (i : Int) : fi p (-i) = -(fi p i) := by
  have h : fi p (-i + i) = fi p (-i) + fi p i := fi_add _ _
  rw [show -i + i = 0 by omega, fi_0] at h
  grind
theorem fi_sub (i j : Int) : fi p (i - j) = fi p i - fi p j := by
  rw [show i - j = i + -j by omega, fi_add, fi_neg]
  grind
theorem fi_1 : fi p 1 = 1 := by
  have : (1 : Fin p).val = 1 := by
    have := pr_gt p
    show 1 % p = 1
    exact Nat.mod_eq_of_lt (by omega)
  rw [← fi_of (1 : Fin p), this]
  rfl
theorem val_fi (i : Int) : (i % p) = ((fi p i).val : Int) := (fi_val i).symm
theorem fin_lt (a : Fin p) : (a.val : Int) < 7 := by have := a.isLt; have := pr_lt p; omega
theorem fin_nn (a : Fin p) : (0 : Int) ≤ (a.val : Int) := by omega
theorem val0 : ((0 : Fin p).val : Int) = 0 := rfl
theorem val1 : ((1 : Fin p).val : Int) = 1 := by rw [← fi_1, fi_val]; exact Int.emod_eq_of_lt (by omega) (by have := pr_gt p; omega)
theorem val_inj {a b : Fin p} : ((a.val : Int) = (b.val : Int)) ↔ a = b := ⟨fun h => Fin.ext (by omega), fun h => by rw [h]⟩
theorem zipD_map {α β : Type} {E : α → D} {G : β → D} {x : List α} {y : List β} : zipD (x.map E) (y.map G) = (x.zip y).map fun q => .tup [E q.1, G q.2] := by
  unfold zipD
  rw [List.zipWith_map]
  induction x generalizing y with
  | nil => rfl
  | cons a x ih => cases y with
    | nil => rfl
    | cons b y => simp [ih]
theorem enumD_at : ∀ (l : List D) (n : Nat), enumD n l = (l.zipIdx n).map fun q => .tup [.int (q.2 : Int), q.1]
  | [], _ => rfl
  | d :: l, n => by
    unfold enumD
    rw [enumD_at l (n + 1)]
    rfl
@[simp] theorem rngD_eq {n : Nat} : rngD 0 n = (List.range n).map fun i => .int ((i : Nat) : Int) := by
  unfold rngD
  apply List.map_congr_left
  intro i _
  rw [Int.zero_add]
/-- the sum of products -/
theorem sum_dot (x y : Vc p) : ((x.zip y).map fun q => (q.1.val : Int) * (q.2.val : Int)).sum % p = ((dot x y).val : Int) := by
  rw [val_fi]
  congr 1
  unfold dot
  induction x generalizing y with
  | nil => exact congrArg Fin.val fi_0
  | cons a x ih => cases y with
    | nil => exact congrArg Fin.val fi_0
    | cons b y =>
      simp only [List.zip_cons_cons, List.map_cons, List.sum_cons, List.zipWith_cons_cons]
      rw [fi_add, fi_mul, fi_of, fi_of, Fin.ext (ih y)]
theorem zip_zipWith {α β γ : Type} {f : α → β → γ} : ∀ {x : List α} {y : List β}, (x.zip y).map (fun q => f q.1 q.2) = List.zipWith f x y
  | [], _ => rfl
  | _ :: _, [] => rfl
  | a :: x, b :: y => by
    rw [List.zip_cons_cons, List.map_cons, List.zipWith_cons_cons, zip_zipWith (x := x)]
/-! ### rows sorted -/
def rin (x : Vc p) : List Int := x.map fun a => (a.val : Int)
theorem row_ints (x : Vc p) : rowD (rin x) = row x := by unfold rowD rin row; rw [List.map_map]; rfl
theorem row?_row (x : Vc p) : D.row? (row x) = some (rin x) := by
  unfold row rin D.row?
  dsimp only
  induction x with
  | nil => rfl
  | cons a x ih =>
    rw [List.map_cons, List.mapM_cons, ih]
    rfl
theorem mapM_rowsE : ∀ B : List (Vc p), (B.map row).mapM D.row? = some (B.map rin)
  | [] => rfl
  | b :: B => by
    rw [List.map_cons, List.mapM_cons, mapM_rowsE B, row?_row]
    rfl
theorem mapM_rowsC (B : List (Vc p)) : B.mapM (D.row? ∘ row) = some (B.map rin) := by
  rw [← mapM_rowsE, List.mapM_map]
theorem lexL_lxv : ∀ x y : Vc p, lexL (rin x) (rin y) = lxv x y
  | [], [] => by simp [rin, lexL, lxv]
  | [], _ :: _ => by simp [rin, lexL, lxv]
  | _ :: _, [] => by simp [rin, lexL, lxv]
  | a :: x, b :: y => by
    have ih := lexL_lxv x y
    show lexL ((a.val : Int) :: rin x) ((b.val : Int) :: rin y) = _
    rw [lexL_cons, ih]
    have e2 : lxv (a :: x) (b :: y) = if a = b then lxv x y else decide (a < b) := by conv => lhs; unfold lxv
    rw [e2]
    by_cases e : a = b
    · rw [if_pos e, if_pos (by rw [e])]
    · rw [if_neg e, if_neg fun z => e (val_inj.mp z)]
      refine decide_eq_decide.mpr ?_
      rw [Fin.lt_def]
      omega
theorem sort_rows (B : List (Vc p)) : (sortRows true (B.map rin)).map rowD = (dsort B).map row := by
  unfold sortRows dsort
  rw [← List.map_mergeSort (r := dle) (f := rin) fun x _ y _ => by
    rw [if_pos rfl, lexL_lxv]
    rfl]
  rw [List.map_map]
  exact List.map_congr_left fun x _ => row_ints x
theorem asort_rows (B : List (Vc p)) : (sortRows false (B.map rin)).map rowD = (asort B).map row := by
  unfold sortRows asort
  rw [← List.map_mergeSort (r := ale) (f := rin) fun x _ y _ => by
    rw [if_neg Bool.false_ne_true, lexL_lxv]
    rfl]
  rw [List.map_map]
  exact List.map_congr_left fun x _ => row_ints x
theorem nil_notin {B : List (Vc p)} {n : Nat} (h : Rs n B) (hn : 1 ≤ n) : [] ∉ B.map rin := fun z => by
  obtain ⟨b, hb, e⟩ := List.mem_map.mp z
  have := h b hb
  unfold rin at e
  rw [List.map_eq_nil_iff] at e
  rw [e] at this
  simp at this
  omega
/-- a place, or nothing -/
def ol : Option Nat → D
  | none => .non
  | some i => .int (i : Int)
theorem len_le {n : Nat} {B : List (Vc p)} (E : Ech n B) : B.length ≤ n := by
  have := nodup_le (m := List.range n) E.lds fun l hl => by
    obtain ⟨b, hb, e⟩ := List.mem_map.mp hl
    rw [← e]
    exact List.mem_range.mpr (E.lt hb)
  simpa using this
theorem atI_row {x : Vc p} {i : Nat} (h : i < x.length) : atI (x.map fd) (i : Int) = some (fd (ent x i)) := by
  rw [atI_nat (by simpa using h), List.getElem?_map, List.getElem?_eq_getElem h, ent_at h]
  rfl
@[simp] theorem items_row {x : Vc p} : D.items (row x) = some (x.map fd) := (rfl)
@[simp] theorem items_tab {t : List (Vc p)} : D.items (tab t) = some (t.map row) := (rfl)
def lrow (x : Vc p) : D := .lst (x.map fd)
@[simp] theorem items_lrow {x : Vc p} : D.items (lrow x) = some (x.map fd) := (rfl)
@[simp] theorem lst_lrow {x : Vc p} : D.lst (x.map fd) = lrow x := (rfl)
@[simp] theorem tup_lrow {x : Vc p} : cTuple [lrow x] w = .ok (row x) w := (rfl)
@[simp] theorem len_lrow {x : Vc p} : cLen [lrow x] w = .ok (.int (x.length : Int)) w := by show cLen [.lst (x.map fd)] w = _; simp [cLen, D.len?]
theorem added_list (x y : Vc p) (f : Fin p) : (x.zip y).map (fun q => fd (q.1 + f * q.2)) = (add x y f).map fd := by
  unfold add
  rw [List.map_zipWith]
  exact zip_zipWith (f := fun x y => fd (x + f * y))
@[simp] theorem len_row {x : Vc p} : cLen [row x] w = .ok (.int (x.length : Int)) w := by simp [row]
@[simp] theorem len_tab {t : List (Vc p)} : cLen [tab t] w = .ok (.int (t.length : Int)) w := by simp [tab]
@[simp] theorem ty_row {x : Vc p} : D.ty (row x) = some "tuple" := (rfl)
@[simp] theorem ty_tab {t : List (Vc p)} : D.ty (tab t) = some "tuple" := (rfl)
theorem ix_row {x : Vc p} {i : Nat} (h : i < x.length) : dIx (row x) (.int (i : Int)) w = .ok (fd (ent x i)) w := by
  rw [show row x = .tup (x.map fd) from rfl, ev_ixT, atI_row h]
  rfl
theorem ix_tab {t : List (Vc p)} {i : Nat} (h : i < t.length) : dIx (tab t) (.int (i : Int)) w = .ok (row t[i]) w := by
  rw [show tab t = .tup (t.map row) from rfl, ev_ixT, atI_nat (by simpa using h), List.getElem?_map, List.getElem?_eq_getElem h]
  rfl
@[simp] theorem tup_row {x : Vc p} : cTuple [.lst (x.map fd)] w = .ok (row x) w := (rfl)
@[simp] theorem tup_row' {x : Vc p} : D.tup (x.map fd) = row x := (rfl)
@[simp] theorem tup_tab' {x : List (Vc p)} : D.tup (x.map row) = tab x := (rfl)
/-! ### plain data: equality -/
end
end DL

set_option Elab.async false
set_option linter.all false
set_option maxRecDepth 100000
set_option maxHeartbeats 1000000
/-! EV3: effects: the world, draws; loops by invariants. -/
namespace DL
open PySem PySem.Spec L2
open PyProof.Rows hiding St
section
variable {w w0 : Om} {r : Sl} {α β : Type} {P : α → Om → Prop} {E : Exn → Sl → Om → Prop}
/-- what is wanted of an outcome, sealed -/
structure _root_.DL.Out.Wp {α : Type} (o : Out α) (P : α → Om → Prop) (E : Exn → Sl → Om → Prop) : Prop where
  run : o.Sat P E
theorem Out.wp_bind {o : Out α} {f : α → Om → Out β} {P : β → Om → Prop} : (o.bind f).Wp P E ↔ o.Wp (fun x w => (f x w).Wp P E) E := by
  constructor
  · intro h
    exact ⟨(Out.sat_bind.mp h.run).mono fun x w q => ⟨q⟩⟩
  · intro h
    exact ⟨Out.sat_bind.mpr (h.run.mono fun x w q => q.run)⟩
theorem Out.wp_at {o : Out α} {r : Sl} : (o.at r).Wp P E ↔ o.Wp P fun e _ w => E e r w := ⟨fun h => ⟨Out.sat_at.mp h.run⟩, fun h => ⟨Out.sat_at.mpr h.run⟩⟩
theorem Out.Wp.imp {o : Out α} {P' : α → Om → Prop} {E' : Exn → Sl → Om → Prop} (h : o.Wp P E) (hp : ∀ x w, P x w → P' x w) (he : ∀ e r w, E e r w → E' e r w) : o.Wp P' E' := ⟨h.run.imp hp he⟩
theorem Out.Wp.mono {o : Out α} {P' : α → Om → Prop} (h : o.Wp P E) (hp : ∀ x w, P x w → P' x w) : o.Wp P' E := ⟨h.run.mono hp⟩
@[simp] theorem Out.wp_ok {x : α} : (Out.ok x w).Wp P E ↔ P x w := ⟨fun h => h.run, fun h => ⟨h⟩⟩
@[simp] theorem Out.wp_exc {e : Exn} {r : Sl} : (Out.exc e r w : Out α).Wp P E ↔ E e r w := ⟨fun h => h.run, fun h => ⟨h⟩⟩
@[simp] theorem Out.wp_stuck : (Out.stuck : Out α).Wp P E ↔ False := ⟨fun h => h.run, fun h => h.elim⟩
@[simp] theorem Out.wp_any : (Out.any : Out α).Wp P E ↔ True := ⟨fun _ => trivial, fun _ => ⟨trivial⟩⟩
theorem Out.wp_frs {k : Addr → Out α} : (Out.frs w k).Wp P E ↔ ∀ a, w a = none → (k a).Wp P E := ⟨fun h a e => ⟨Out.sat_frs.mp h.run a e⟩, fun h => ⟨Out.sat_frs.mpr fun a e => (h a e).run⟩⟩
theorem Out.wp_new {k : Addr → Out α} : (Out.new k).Wp P E ↔ ∀ a, (k a).Wp P E := ⟨fun h a => ⟨h.run a⟩, fun h => ⟨fun a => (h a).run⟩⟩
theorem Out.wp_catch {o : Out α} {h : Exn → Sl → Om → Out α} : (o.catch h).Wp P E ↔ o.Wp P fun e r w => (h e r w).Wp P E := by
  constructor
  · intro q
    exact ⟨(Out.sat_catch.mp q.run).imp (fun _ _ z => z) fun e r w z => ⟨z⟩⟩
  · intro q
    exact ⟨Out.sat_catch.mpr (q.run.imp (fun _ _ z => z) fun e r w z => z.run)⟩
theorem wp_congr_ {o o' : Out α} (h : o = o') : o.Wp P E = o'.Wp P E := h ▸ rfl
theorem sat_eq {o : Out α} {x : α} (h : o = .ok x w) (hp : P x w) : o.Wp P E := by rw [h]; exact ⟨hp⟩
/-- one step of a chain -/
theorem sat_then {o : Out α} {f : α → Om → Out β} {Q : β → Om → Prop} {P' : α → Om → Prop} (h : o.Wp P' E) (k : ∀ x w, P' x w → (f x w).Wp Q E) : (o.bind f).Wp Q E := by
  rw [Out.wp_bind]
  exact h.mono k
theorem sat_at {o : Out α} {r : Sl} {P' : α → Om → Prop} (h : o.Wp P' fun _ _ _ => False) (k : ∀ x w, P' x w → P x w) : (o.at r).Wp P E := by
  rw [Out.wp_at]
  exact h.imp k fun _ _ _ z => z.elim
theorem sat_calm0 : ∀ {o : Out α}, o.Sat P (fun _ _ _ => False) → o.calm.Sat P E
  | .stuck, h => h
  | .any, _ => trivial
  | .ok _ _, h => h
  | .exc _ _ _, h => h.elim
  | .new k, h => fun a => sat_calm0 (o := k a) (h a)
theorem sat_calm' {o : Out α} (h : o.Wp P (fun _ _ _ => False)) : o.calm.Wp P E := ⟨sat_calm0 h.run⟩
def resK (I : Sl → Om → Prop) (Q : Res → Om → Prop) : Res → Om → Prop
  | .nx r, w => I r w
  | .ct r, w => I r w
  | .bk r, w => Q (.nx r) w
  | .rt d, w => Q (.rt d) w
@[simp] theorem resK_nx {I : Sl → Om → Prop} {Q : Res → Om → Prop} : resK I Q (.nx r) w = I r w := (rfl)
@[simp] theorem resK_ct {I : Sl → Om → Prop} {Q : Res → Om → Prop} : resK I Q (.ct r) w = I r w := (rfl)
@[simp] theorem resK_bk {I : Sl → Om → Prop} {Q : Res → Om → Prop} : resK I Q (.bk r) w = Q (.nx r) w := (rfl)
@[simp] theorem resK_rt {I : Sl → Om → Prop} {Q : Res → Om → Prop} {d : D} : resK I Q (.rt d) w = Q (.rt d) w := (rfl)
theorem forGo_sat {bd : D → Sl → Option Sl} {s : Sl → Om → Out Res} {ds : List D} {Q : Res → Om → Prop} (I : Nat → Sl → Om → Prop) (h0 : I 0 r w) (h : ∀ i d r w, ds[i]? = some d → I i r w → (ocase (bd d r) fun r1 => s r1 w).Wp (resK (I (i + 1)) Q) E) (hk : ∀ r w, I ds.length r w → Q (.nx r) w) : (forGo bd s ds r w).Wp Q E := by
  induction ds generalizing r w I with
  | nil => exact ⟨hk r w h0⟩
  | cons d ds ih =>
    have h1 := h 0 d r w rfl h0
    unfold forGo
    cases e : bd d r with
    | none => rw [e] at h1; exact h1.run.elim
    | some r1 =>
      rw [e] at h1
      have h1 : (s r1 w).Wp (resK (I 1) Q) E := h1
      dsimp only
      rw [Out.wp_bind]
      refine h1.mono fun res w2 q => ?_
      cases res with
      | nx r2 => exact ih (fun i => I (i + 1)) q (fun i d r w hd hi => h (i + 1) d r w (by simpa using hd) hi) hk
      | ct r2 => exact ih (fun i => I (i + 1)) q (fun i d r w hd hi => h (i + 1) d r w (by simpa using hd) hi) hk
      | bk r2 => exact ⟨q⟩
      | rt d => exact ⟨q⟩
/-- by an invariant that knows no place -/
theorem forGo_sat' {bd : D → Sl → Option Sl} {s : Sl → Om → Out Res} {ds : List D} {Q : Res → Om → Prop} (I : Sl → Om → Prop) (h0 : I r w) (h : ∀ d r w, d ∈ ds → I r w → (ocase (bd d r) fun r1 => s r1 w).Wp (resK I Q) E) (hk : ∀ r w, I r w → Q (.nx r) w) : (forGo bd s ds r w).Wp Q E :=
  forGo_sat (fun _ => I) h0 (fun i d r w hd hi => h d r w (List.mem_of_getElem? hd) hi) hk
theorem lcGo_sat {bd : D → Sl → Option Sl} {f : Sl → Om → Out D} {ds : List D} (Y : D → Prop) (W : Om → Prop) (hw : W w) (h : ∀ d w, d ∈ ds → W w → (ocase (bd d r) fun r1 => f r1 w).Wp (fun y w' => Y y ∧ W w') fun _ _ _ => False) : (lcGo bd tYesD f r ds w).Wp (fun ys w' => ys.length = ds.length ∧ (∀ y ∈ ys, Y y) ∧ W w') E := by
  induction ds generalizing w with
  | nil => exact ⟨⟨rfl, fun y hy => by simp at hy, hw⟩⟩
  | cons d ds ih =>
    have h1 := h d w (List.mem_cons_self ..) hw
    unfold lcGo
    cases e : bd d r with
    | none => rw [e] at h1; exact h1.run.elim
    | some r1 =>
      rw [e] at h1
      have h1 : (f r1 w).Wp (fun y w' => Y y ∧ W w') fun _ _ _ => False := h1
      dsimp only
      rw [ev_tYes, Out.calm_ok, Out.bind_ok, if_pos rfl, Out.wp_bind]
      refine (sat_calm' h1).mono fun y w2 q => ?_
      rw [Out.wp_bind]
      refine (ih q.2 fun d w hd hw => h d w (List.mem_cons_of_mem _ hd) hw).mono fun ys w3 q3 => ⟨?_⟩
      refine ⟨by rw [List.length_cons, List.length_cons, q3.1], fun z hz => ?_, q3.2.2⟩
      rcases List.mem_cons.mp hz with rfl | hz
      · exact q.1
      · exact q3.2.1 z hz
/-! ### draws -/
/-- the script's hand-out, at a handle -/
def Dr (h : Addr) (w : Om) : Prop := ∃ (ns : List Int) (i s c : Int), w h = some (.lst [.fl (ns.map .int), .int i, .int s, .int c]) ∧ 0 ≤ i
def Dw (h : Addr) (w0 w : Om) : Prop := Dr h w ∧ ∀ b, b ≠ h → w b = w0 b
theorem Dw.refl {h : Addr} (d : Dr h w) : Dw h w w := ⟨d, fun _ _ => rfl⟩
theorem Dw.set {h : Addr} {l : List D} (d : Dw h w0 w) (k : Dr h (w.set h (.lst l))) : Dw h w0 (w.set h (.lst l)) := ⟨k, fun b hb => by rw [Om.set_ne hb]; exact d.2 b hb⟩
/-- a draw: from 0 to less than many -/
def Dn (many : Int) (h : Addr) (w0 : Om) : D → Om → Prop := fun d w => ∃ v, d = .int v ∧ 0 ≤ v ∧ v < many ∧ Dw h w0 w
theorem wLst_of {h : Addr} {l : List D} (e : w h = some (.lst l)) : wLst w (.ref h) = some (h, l) := by unfold wLst; dsimp only; rw [e]
/-- the list at a handle -/
def wL (w : Om) (h : Addr) : Option (List D) := match w h with
  | some (.lst l) => some l
  | _ => none
theorem wL_of {h : Addr} {l : List D} (e : w h = some (.lst l)) : wL w h = some l := by unfold wL; rw [e]
@[simp] theorem wL_set {h : Addr} {l : List D} : wL (w.set h (.lst l)) h = some l := wL_of Om.set_same
def ixW (o k : D) (w : Om) : Out D := match wLst w o, k with
  | some (_, l), .int k => ocase ((ixN l.length k).bind fun j => l[j]?) fun d => .ok d w
  | _, _ => .stuck
@[simp] theorem ixW_ref {h : Addr} {k : Int} : ixW (.ref h) (.int k) w = ocase (wL w h) fun l => ocase ((ixN l.length k).bind fun j => l[j]?) fun d => .ok d w := by
  unfold ixW wLst wL
  cases e : w h with
  | none => simp [e]; rfl
  | some m => cases m <;> simp [e] <;> rfl
@[simp] theorem ev_ixW {fo fi : Sl → Om → Out D} : eIxW fo fi r w = (fo r w).bind fun o w => (fi r w).bind fun k w => ixW o k w := by
  unfold eIxW
  congr 1
  funext o w
  congr 1
  funext k w
  unfold ixW
  cases wLst w o with
  | none => rfl
  | some q =>
    obtain ⟨a, l⟩ := q
    cases k <;> (try rfl)
    rename_i k
    dsimp only
    cases (ixN l.length k).bind fun j => l[j]? <;> rfl
def sbW (d o k : D) (r : Sl) (w : Om) : Out Res := match wLst w o, k with
  | some (a, l), .int k => ocase (ixN l.length k) fun j => .ok (.nx r) (w.set a (.lst (l.set j d)))
  | _, _ => .stuck
@[simp] theorem sbW_ref {d : D} {h : Addr} {k : Int} : sbW d (.ref h) (.int k) r w = ocase (wL w h) fun l => ocase (ixN l.length k) fun j => .ok (.nx r) (w.set h (.lst (l.set j d))) := by
  unfold sbW wLst wL
  cases e : w h with
  | none => simp [e]; rfl
  | some m => cases m <;> simp [e] <;> rfl
@[simp] theorem ev_subW {f fo fi : Sl → Om → Out D} : sSubW f fo fi r w = (f r w).bind fun d w => (fo r w).bind fun o w => (fi r w).bind fun k w => sbW d o k r w := by
  unfold sSubW
  congr 1
  funext d w
  congr 1
  funext o w
  congr 1
  funext k w
  unfold sbW
  cases wLst w o with
  | none => rfl
  | some q =>
    obtain ⟨a, l⟩ := q
    cases k <;> (try rfl)
    rename_i k
    dsimp only
    cases ixN l.length k <;> rfl
@[simp] theorem ixN_40 : ixN 4 0 = some 0 := (rfl)
@[simp] theorem ixN_41 : ixN 4 1 = some 1 := (rfl)
@[simp] theorem ixN_42 : ixN 4 2 = some 2 := (rfl)
@[simp] theorem ixN_43 : ixN 4 3 = some 3 := (rfl)
@[simp] theorem ev_mulR {i j : Int} (h : -(2 ^ 64) < j ∧ j < 2 ^ 64) : dMul (.int i) (.int j) w = .ok (.int (i * j)) w := ev_mul (.inr h)
@[simp] theorem om_set_set {h : Addr} {m m' : MO} : (w.set h m).set h m' = w.set h m' := Om.set_set
theorem Dw.of {h : Addr} {ns : List Int} {i s c : Int} (fr : ∀ b, b ≠ h → w b = w0 b) (hi : 0 ≤ i) : Dw h w0 (w.set h (.lst [.fl (ns.map .int), .int i, .int s, .int c])) := ⟨⟨ns, i, s, c, Om.set_same, hi⟩, fun b hb => by rw [Om.set_ne hb]; exact fr b hb⟩
theorem sat_mono' {o : Out α} {P' : α → Om → Prop} (h : o.Wp P' fun _ _ _ => False) (k : ∀ x w, P' x w → P x w) : o.Wp P E := h.imp k fun _ _ _ z => z.elim
/-- numbers modulo the prime, out of a list -/
theorem rows_of {p : Nat} [LA.Pr p] : ∀ {ys : List D}, (∀ y ∈ ys, ∃ b : _root_.Fin p, y = fd b) → ∃ x : LA.Vc p, x.length = ys.length ∧ ys = x.map fd
  | [], _ => ⟨[], rfl, rfl⟩
  | y :: ys, h => by
    obtain ⟨b, rfl⟩ := h y (List.mem_cons_self ..)
    obtain ⟨x, h1, h2⟩ := rows_of (ys := ys) fun z hz => h z (List.mem_cons_of_mem _ hz)
    exact ⟨b :: x, by rw [List.length_cons, List.length_cons, h1], by rw [List.map_cons, ← h2]⟩
theorem tabs_of {p : Nat} [LA.Pr p] {n : Nat} : ∀ {ys : List D}, (∀ y ∈ ys, ∃ x : LA.Vc p, x.length = n ∧ y = row x) → ∃ t : List (LA.Vc p), t.length = ys.length ∧ LA.Rs n t ∧ ys = t.map row
  | [], _ => ⟨[], rfl, LA.Rs.nil, rfl⟩
  | y :: ys, h => by
    obtain ⟨b, hb, rfl⟩ := h y (List.mem_cons_self ..)
    obtain ⟨x, h1, h2, h3⟩ := tabs_of (ys := ys) fun z hz => h z (List.mem_cons_of_mem _ hz)
    exact ⟨b :: x, by rw [List.length_cons, List.length_cons, h1], LA.Rs.cons hb h2, by rw [List.map_cons, ← h3]⟩
theorem draw_fd {p : Nat} [LA.Pr p] {v : Int} (h0 : 0 ≤ v) (h1 : v < p) : D.int v = fd (fi p v) := by
  show D.int v = D.int ((fi p v).val : Int)
  rw [fi_val, Int.emod_eq_of_lt h0 h1]
def oL (s : Option Slot) : Option (List D) := match s with
  | some (.o l) => some l
  | _ => none
@[simp] theorem oL_o {l : List D} : oL (some (.o l)) = some l := (rfl)
def icase (d : D) (k : Int → Out α) : Out α := match d with
  | .int i => k i
  | _ => .stuck
theorem icase_congr_ {d d' : D} {k : Int → Out α} (h : d = d') : icase d k = icase d' k := h ▸ rfl
@[simp] theorem icase_int {i : Int} {k : Int → Out α} : icase (.int i) k = k i := (rfl)
theorem ocase_oL {s : Option Slot} {k : List D → Out α} : ocase (oL s) k = match s with | some (.o l) => k l | _ => .stuck := by
  cases s with
  | none => rfl
  | some s => cases s <;> rfl
@[simp] theorem ev_subO {n : Nat} {f fi : Sl → Om → Out D} : sSubO n f fi r w = (f r w).bind fun d w => ocase (oL r[n]?) fun l => (fi r w).bind fun k w => icase k fun k => ocase (ixN l.length k) fun j => .ok (.nx (r.set n (.o (l.set j d)))) w := by
  unfold sSubO
  congr 1
  funext d w
  rw [ocase_oL]
  cases r[n]? with
  | none => rfl
  | some s => cases s <;> (try rfl)
              rename_i l
              dsimp only
              congr 1
              funext k w
              cases k <;> (try rfl)
              rename_i k
              dsimp only [icase]
              cases ixN l.length k <;> rfl
@[simp] theorem ev_stO {n : Nat} {d : D} {fi : Sl → Om → Out D} : stO n d fi r w = ocase (oL r[n]?) fun l => (fi r w).bind fun k w => icase k fun k => ocase (ixN l.length k) fun j => .ok (r.set n (.o (l.set j d))) w := by
  unfold stO
  rw [ocase_oL]
  cases r[n]? with
  | none => rfl
  | some s => cases s <;> (try rfl)
              rename_i l
              dsimp only
              congr 1
              funext k w
              cases k <;> (try rfl)
              rename_i k
              dsimp only [icase]
              cases ixN l.length k <;> rfl
def pair2 (ds : List D) (k : D → D → Out α) : Out α := match ds with
  | [x, y] => k x y
  | _ => .stuck
@[simp] theorem pair2_of {x y : D} {k : D → D → Out α} : pair2 [x, y] k = k x y := (rfl)
@[simp] theorem ev_swap {n : Nat} {fs : Sl → Om → Out (List D)} {f1 f2 : Sl → Om → Out D} : sSwap n fs f1 f2 r w = (fs r w).bind fun ds w => pair2 ds fun d1 d2 => (stO n d1 f1 r w).bind fun r w => (stO n d2 f2 r w).bind fun r w => .ok (.nx r) w := by
  first
    | (unfold sSwap; done)
    | (unfold sSwap; congr 1)
@[simp] theorem ev_appO {n : Nat} {f : Sl → Om → Out D} : sAppO n f r w = ocase (oL r[n]?) fun l => (f r w).bind fun d w => if l.length < sizeLine then .ok (.nx (r.set n (.o (l ++ [d])))) w else .stuck := by
  unfold sAppO
  first
    | (rw [ocase_oL]; done)
    | (rw [ocase_oL]
       cases r[n]? with
       | none => rfl
       | some s => cases s <;> rfl)
@[simp] theorem ev_gNil : gNilA r w = .ok [] w := (rfl)
@[simp] theorem ev_gCons {f : Sl → Om → Out Slot} {g : Sl → Om → Out (List Slot)} : gConsA f g r w = (f r w).bind fun d w => (g r w).bind fun ds w => .ok (d :: ds) w := (rfl)
@[simp] theorem ev_sPar {is : List Nat} {fs : Sl → Om → Out (List Slot)} : sPar is fs r w = (fs r w).bind fun ds w => if ds.length = is.length then .ok (.nx (setsS r is ds)) w else .stuck := (rfl)
@[simp] theorem ev_setsC {i : Nat} {is : List Nat} {d : Slot} {ds : List Slot} : setsS r (i :: is) (d :: ds) = setsS (r.set i d) is ds := (rfl)
@[simp] theorem ev_setsN {ds : List Slot} : setsS r [] ds = r := by cases ds <;> rfl
@[simp] theorem ev_sTup {f : Sl → Om → Out D} {bd : D → Sl → Option Sl} : sTup f bd r w = (f r w).bind fun d w => ocase (bd d r) fun r' => .ok (.nx r') w := by
  unfold sTup
  congr 1
  funext d w
  cases bd d r <;> rfl
@[simp] theorem ev_dPow {i j : Int} : dPow (.int i) (.int j) w = if 0 ≤ j ∧ j ≤ 1000000 ∧ i.natAbs < 2 ^ 64 then .ok (.int (i ^ j.toNat)) w else .stuck := (rfl)
theorem atI_lst {α : Type} {l : List α} {v : Int} (h0 : 0 ≤ v) (h1 : v < l.length) : atI l v = some (l[v.toNat]'(by omega)) := by rw [atI_int h0 h1, List.getElem?_eq_getElem]
theorem ixN_int {n : Nat} {v : Int} (h0 : 0 ≤ v) (h1 : v < n) : ixN n v = some v.toNat := by unfold ixN; rw [if_pos h0, if_pos h1]
end
end DL

set_option Elab.async false
set_option linter.all false
set_option maxRecDepth 100000
set_option maxHeartbeats 1000000
/-! EV4: machines, deeds as data. -/
namespace DL
open PySem PySem.Spec L2
open PyProof.Rows hiding St
open LA
structure Mc (p : Nat) [LA.Pr p] where
  n : Nat
  S : List (Vc p)
  W : List (Vc p)
  T : List (Vc p)
section
variable {p : Nat} [hp : LA.Pr p] {w : Om}
def Mc.d (M : Mc p) : D := .tup [.int p, tab M.S, tab M.W, tab M.T]
structure Mc.Ok (M : Mc p) : Prop where
  n1 : 1 ≤ M.n
  n4 : M.n ≤ 4
  full : Full M.n M.S
  w1 : 1 ≤ M.W.length
  w4 : M.W.length ≤ 4
  wr : Rs M.n M.W
  t1 : 1 ≤ M.T.length
  t4 : M.T.length ≤ 4
  tr : Rs M.n M.T
@[simp] theorem mc_0 {M : Mc p} : dIx M.d (.int 0) w = .ok (.int p) w := by simp [Mc.d]
@[simp] theorem mc_1 {M : Mc p} : dIx M.d (.int 1) w = .ok (tab M.S) w := by simp [Mc.d]
@[simp] theorem mc_2 {M : Mc p} : dIx M.d (.int 2) w = .ok (tab M.W) w := by simp [Mc.d]
@[simp] theorem mc_3 {M : Mc p} : dIx M.d (.int 3) w = .ok (tab M.T) w := by simp [Mc.d]
theorem mc_fold {M : Mc p} : D.tup [.int p, tab M.S, tab M.W, tab M.T] = M.d := (rfl)
/-- behind a tick -/
def Mc.st (M : Mc p) (x : Vc p) : Vc p := tms M.S x
/-- the row at a place -/
def gt (t : List (Vc p)) (i : Nat) : Vc p := t.getD i []
inductive Deed where
  | get (j : Nat) | plus (j : Nat) | minus (j : Nat) | add (i : Nat) | take (i : Nat) | put (c : Nat) | wait
def Deed.d : Deed → D
  | .get j => .tup [.str "get", .int j]
  | .plus j => .tup [.str "plus", .int j]
  | .minus j => .tup [.str "minus", .int j]
  | .add j => .tup [.str "add", .int j]
  | .take j => .tup [.str "take", .int j]
  | .put j => .tup [.str "put", .int j]
  | .wait => .tup [.str "wait"]
def Deed.Ok (M : Mc p) : Deed → Prop
  | .get j => j < M.T.length
  | .plus j => j < M.T.length
  | .minus j => j < M.T.length
  | .add j => j < M.W.length
  | .take j => j < M.W.length
  | .put c => c < p
  | .wait => True
/-- the memory and the hand behind a deed -/
def Deed.mem (M : Mc p) (m : Vc p) (hd : Fin p) : Deed → Vc p
  | .add i => M.st (LA.add m (gt M.W i) hd)
  | .take i => M.st (LA.add m (gt M.W i) (-hd))
  | _ => M.st m
def Deed.hand (M : Mc p) (m : Vc p) (hd : Fin p) : Deed → Fin p
  | .get j => dot (gt M.T j) m
  | .plus j => hd + dot (gt M.T j) m
  | .minus j => hd - dot (gt M.T j) m
  | .put c => fi p c
  | _ => hd
theorem ix_tabD {t : List (Vc p)} {i : Nat} (h : i < t.length) : dIx (tab t) (.int (i : Int)) w = .ok (row (gt t i)) w := by
  unfold gt
  rw [ix_tab h, List.getD_eq_getElem?_getD, List.getElem?_eq_getElem h]
  rfl
theorem getD_mem {t : List (Vc p)} {i : Nat} (h : i < t.length) : gt t i ∈ t := by
  unfold gt
  rw [List.getD_eq_getElem?_getD, List.getElem?_eq_getElem h]
  exact List.getElem_mem h
theorem mem_len {M : Mc p} (ok : M.Ok) {m : Vc p} (hm : m.length = M.n) {hd : Fin p} (e : Deed) : (e.mem M m hd).length = M.n := by
  cases e <;> simp [Deed.mem, Mc.st, ok.full.sz]
/-- numbers as Python has them -/
def isNumB (lo hi : Int) : D → Bool
  | .int i => decide (lo ≤ i) && decide (i ≤ hi)
  | _ => false
def isRowB (p : Nat) (n : Nat) : D → Bool
  | .tup l => decide (l.length = n) && l.all (isNumB 0 ((p : Int) - 1))
  | _ => false
def areRowsB (p : Nat) (lo hi n : Nat) : D → Bool
  | .tup l => decide (lo ≤ l.length) && decide (l.length ≤ hi) && l.all (isRowB p n)
  | _ => false
theorem isRow_row {x : Vc p} {n : Nat} (h : x.length = n) : isRowB p n (row x) = true := by
  unfold row isRowB
  simp [h, isNumB]
  intro a ha
  have := a.isLt
  omega
theorem areRows_tab {t : List (Vc p)} {lo hi n : Nat} (h1 : lo ≤ t.length) (h2 : t.length ≤ hi) (h : Rs n t) : areRowsB p lo hi n (tab t) = true := by
  unfold tab areRowsB
  simp [h1, h2]
  exact fun x hx => isRow_row (h x hx)
theorem prime_in : D.in? (.int p) (.tup [.int 2, .int 3, .int 5, .int 7]) = some true := by
  rcases hp.is with rfl | rfl | rfl | rfl <;> rfl
@[simp] theorem eq_nil : D.eq? (.lst []) (.lst []) = some true := (rfl)
/-- what _law_alike goes through in so many steps -/
def okA : Nat → D → Bool
  | 0, _ => false
  | n + 1, .tup l => decide (l.length ≤ 1000) && l.all (okA n)
  | n + 1, .lst l => decide (l.length ≤ 1000) && l.all (okA n)
  | _ + 1, .non => true
  | _ + 1, .bl _ => true
  | _ + 1, .int _ => true
  | _ + 1, .str _ => true
  | _ + 1, _ => false
theorem okA_row {x : Vc p} {n : Nat} (h : x.length ≤ 1000) : okA (n + 2) (row x) = true := by
  unfold row okA
  simp [h]
  intro b _
  rfl
theorem okA_tab {t : List (Vc p)} {n : Nat} (h : t.length ≤ 1000) (h2 : ∀ r ∈ t, r.length ≤ 1000) : okA (n + 3) (tab t) = true := by
  unfold tab okA
  simp [h]
  exact fun x hx => okA_row (h2 x hx)
end
end DL

set_option Elab.async false
set_option linter.all false
set_option maxRecDepth 100000
set_option maxHeartbeats 1000000
/-! EV5: objects, exceptions, lambdas. -/
namespace DL
open PySem PySem.Spec L2
open PyProof.Rows hiding St
section
variable {w : Om} {r : Sl} {α β : Type} {f fe fo : Sl → Om → Out D} {fs : Sl → Om → Out (List D)} {m : List D → Om → Out D} {dd : List D} {C x : Addr} {nm : Str}
/-- the instance at an address -/
def wI (w : Om) (x : Addr) : Option (Addr × Addr × List (Str × D)) := match w x with
  | some (.ins C dx fl) => some (C, dx, fl)
  | _ => none
theorem wI_of {dx : Addr} {fl : List (Str × D)} (e : w x = some (.ins C dx fl)) : wI w x = some (C, dx, fl) := by unfold wI; rw [e]
@[simp] theorem wI_set {dx : Addr} {fl : List (Str × D)} : wI (w.set x (.ins C dx fl)) x = some (C, dx, fl) := wI_of Om.set_same
theorem wIns_wI : wIns w (.ref x) = (wI w x).map fun q => (x, q.1, q.2.1, q.2.2) := by
  unfold wIns wI
  cases e : w x with
  | none => simp [e]
  | some mo => cases mo <;> simp [e]
def attK (C : Addr) (nm : Str) (o : D) (w : Om) : Out D := match wIns w o with
  | some (_, C', _, fl) => if C' = C then ocase (fl.lookup nm) fun d => .ok d w else .stuck
  | none => .stuck
@[simp] theorem attK_ref : attK C nm (.ref x) w = ocase (wI w x) fun q => if q.1 = C then ocase (q.2.2.lookup nm) fun d => .ok d w else .stuck := by
  unfold attK
  rw [wIns_wI]
  cases wI w x <;> rfl
@[simp] theorem ev_att : eAtt C nm fo r w = (fo r w).bind fun o w => attK C nm o w := by
  unfold eAtt
  congr 1
  funext o w
  unfold attK
  cases wIns w o with
  | none => rfl
  | some q =>
    obtain ⟨a, C', dx, fl⟩ := q
    dsimp only
    split
    · cases fl.lookup nm <;> rfl
    · rfl
@[simp] theorem putD_nil {d : D} : putD nm d [] = [(nm, d)] := (rfl)
@[simp] theorem putD_cons {d v : D} {n : Str} {l : List (Str × D)} : putD nm d ((n, v) :: l) = if n = nm then (n, d) :: l else (n, v) :: putD nm d l := (rfl)
def sattK (C : Addr) (nm : Str) (d o : D) (r : Sl) (w : Om) : Out Res := match wIns w o with
  | some (a, C', dx, fl) => if C' = C ∧ fl.length < 1000 then .ok (.nx r) (w.set a (.ins C dx (putD nm d fl))) else .stuck
  | none => .stuck
@[simp] theorem sattK_ref {d : D} : sattK C nm d (.ref x) r w = ocase (wI w x) fun q => if q.1 = C ∧ q.2.2.length < 1000 then .ok (.nx r) (w.set x (.ins C q.2.1 (putD nm d q.2.2))) else .stuck := by
  unfold sattK
  rw [wIns_wI]
  cases wI w x <;> rfl
@[simp] theorem ev_satt : sAtt C nm fe fo r w = (fe r w).bind fun d w => (fo r w).bind fun o w => sattK C nm d o r w := (rfl)
def saugK (C : Addr) (nm : Str) (o : D) (fe : Sl → Om → Out D) (r : Sl) (w : Om) : Out Res := match wIns w o with
  | some (a, C', dx, fl) => if C' = C then ocase (fl.lookup nm) fun v => icase v fun i => (fe r w).bind fun d w => icase d fun j => ocase (wI w a) fun q => if q.1 = C ∧ q.2.2.length < 1000 then .ok (.nx r) (w.set a (.ins C q.2.1 (putD nm (.int (i + j)) q.2.2))) else .stuck else .stuck
  | none => .stuck
@[simp] theorem saugK_ref : saugK C nm (.ref x) fe r w = ocase (wI w x) fun q => if q.1 = C then ocase (q.2.2.lookup nm) fun v => icase v fun i => (fe r w).bind fun d w => icase d fun j => ocase (wI w x) fun q => if q.1 = C ∧ q.2.2.length < 1000 then .ok (.nx r) (w.set x (.ins C q.2.1 (putD nm (.int (i + j)) q.2.2))) else .stuck else .stuck := by
  unfold saugK
  rw [wIns_wI]
  cases wI w x <;> rfl
@[simp] theorem ev_saug : sAttAug C nm fo fe r w = (fo r w).bind fun o w => saugK C nm o fe r w := by
  unfold sAttAug
  congr 1
  funext o w
  unfold saugK
  cases wIns w o with
  | none => rfl
  | some q =>
    obtain ⟨a, C', dx, fl⟩ := q
    dsimp only
    split
    · cases fl.lookup nm with
      | none => rfl
      | some v =>
        cases v <;> (try rfl)
        rename_i i
        show _ = (fe r w).bind _
        dsimp only
        congr 1
        funext d w
        cases d <;> (try rfl)
        · rename_i j
          show _ = ocase (wI w a) _
          unfold wI
          cases w a with
          | none => rfl
          | some mo => cases mo <;> rfl
    · rfl
def pairT (d : D) (k : D → D → Out α) : Out α := match d with
  | .tup [x, y] => k x y
  | _ => .stuck
@[simp] theorem pairT_of {x y : D} {k : D → D → Out α} : pairT (.tup [x, y]) k = k x y := (rfl)
def att2K (C : Addr) (n1 n2 : Str) (d1 d2 o : D) (fo : Sl → Om → Out D) (r : Sl) (w : Om) : Out Res := (sattK C n1 d1 o r w).bind fun _ w => (fo r w).bind fun o w => sattK C n2 d2 o r w
@[simp] theorem att2K_ref {n1 n2 : Str} {d1 d2 o : D} : att2K C n1 n2 d1 d2 o fo r w = (sattK C n1 d1 o r w).bind fun _ w => (fo r w).bind fun o w => sattK C n2 d2 o r w := (rfl)
@[simp] theorem ev_satt2 {n1 n2 : Str} : sAtt2 C n1 n2 fe fo r w = (fe r w).bind fun d w => pairT d fun d1 d2 => (fo r w).bind fun o w => att2K C n1 n2 d1 d2 o fo r w := by
  unfold sAtt2
  congr 1
  funext d w
  unfold pairT
  split
  · congr 1
    funext o w
    unfold att2K sattK
    cases wIns w o with
    | none => rfl
    | some q =>
      obtain ⟨a, C', dx, fl⟩ := q
      dsimp only
      split <;> rfl
  · rename_i hne
    first
      | rfl
      | (split
         · exact absurd rfl (hne _ _)
         · rfl)
def methK (C : Addr) (nm : Str) (n : Nat) (m : List D → Om → Out D) (dd : List D) (o : D) (fs : Sl → Om → Out (List D)) (r : Sl) (w : Om) : Out D := match wIns w o with
  | some (_, C', _, fl) => if C' = C ∧ fl.lookup nm = none then (fs r w).bind fun ds w => (if ds.length + 1 + dd.length = n then (m (o :: (ds ++ dd)) w).at r else .stuck) else .stuck
  | none => .stuck
@[simp] theorem methK_ref {n : Nat} : methK C nm n m dd (.ref x) fs r w = ocase (wI w x) fun q => if q.1 = C ∧ q.2.2.lookup nm = none then (fs r w).bind fun ds w => (if ds.length + 1 + dd.length = n then (m (.ref x :: (ds ++ dd)) w).at r else .stuck) else .stuck := by
  unfold methK
  rw [wIns_wI]
  cases wI w x <;> rfl
@[simp] theorem ev_meth {n : Nat} : eMeth C nm n m dd fo fs r w = (fo r w).bind fun o w => methK C nm n m dd o fs r w := (rfl)
def propK (C : Addr) (m : List D → Om → Out D) (o : D) (w : Om) : Out D := match wIns w o with
  | some (_, C', _, _) => if C' = C then (m [o] w).calm else .stuck
  | none => .stuck
@[simp] theorem propK_ref : propK C m (.ref x) w = ocase (wI w x) fun q => if q.1 = C then (m [.ref x] w).calm else .stuck := by
  unfold propK
  rw [wIns_wI]
  cases wI w x <;> rfl
@[simp] theorem ev_prop : eProp C 1 m fo r w = (fo r w).bind fun o w => propK C m o w := by
  unfold eProp
  congr 1
  funext o w
  unfold propK
  cases wIns w o with
  | none => rfl
  | some q =>
    obtain ⟨a, C', dx, fl⟩ := q
    dsimp only
    simp only [and_true]
def nonK (v o : D) (w : Om) : Out D := match v with
  | .non => .ok o w
  | _ => .stuck
@[simp] theorem nonK_non {o : D} : nonK .non o w = .ok o w := (rfl)
@[simp] theorem ev_make {n : Nat} : eMake C n m dd fs r w = (fs r w).bind fun ds w => if ds.length + 1 + dd.length = n then .frs w fun x => .new fun dx => ((m (.ref x :: (ds ++ dd)) (w.set x (.ins C dx []))).at r).bind fun v w => nonK v (.ref x) w else .stuck := by
  unfold eMake
  congr 1
@[simp] theorem ev_seW : seW fs r w = (fs r w).bind fun ds w => if ds.length ≤ sizeLine then .frs w fun a => .ok (.ref a) (w.set a (.lst ds)) else .stuck := (rfl)
@[simp] theorem ev_mulL {l : List D} {k : Int} : dMul (.lst l) (.int k) w = if 0 ≤ k ∧ k < 2 ^ 63 ∧ l.length * k.toNat ≤ sizeLine then .ok (.lst (List.replicate k.toNat l).flatten) w else .stuck := (rfl)
@[simp] theorem at_at {o : Out α} {r r' : Sl} : (o.at r).at r' = o.at r' := by
  induction o with
  | new k ih => exact congrArg Out.new (funext fun a => ih a)
  | _ => rfl
/-! exceptions -/
@[simp] theorem ev_raise {cn : Str} : sRaise cn r w = .exc ⟨cn, []⟩ r w := (rfl)
def tryK (i : Nat) (exm : Str → Option Bool) (gs : Sl → Om → Out Res) (e : Exn) (r : Sl) (w : Om) : Out Res := match exm e.cls with
  | some true => ((gs (r.set i .no) w).calm).bind fun res w => .ok (resNo i res) w
  | some false => .exc e r w
  | none => .stuck
theorem tryK_yes {i : Nat} {exm : Str → Option Bool} {gs : Sl → Om → Out Res} {e : Exn} (h : exm e.cls = some true) : tryK i exm gs e r w = ((gs (r.set i .no) w).calm).bind fun res w => .ok (resNo i res) w := by unfold tryK; rw [h]
@[simp] theorem ev_try {i : Nat} {exm : Str → Option Bool} {g gs : Sl → Om → Out Res} : sTry i exm g gs r w = (g r w).catch (tryK i exm gs) := (rfl)
theorem catch_congr_ {o o' : Out α} {h : Exn → Sl → Om → Out α} (e : o = o') : o.catch h = o'.catch h := e ▸ rfl
@[simp] theorem resNo_nx {i : Nat} : resNo i (.nx r) = .nx (r.set i .no) := (rfl)
@[simp] theorem resNo_rt {i : Nat} {d : D} : resNo i (.rt d) = .rt d := (rfl)
/-! lambdas -/
@[simp] theorem ev_lam {n : Nat} : eLam n r w = .frs w fun a => .ok (.ref a) (w.set a (.fn n)) := (rfl)
def refA (s : Option Slot) : Option Addr := match s with
  | some (.p (.ref a)) => some a
  | _ => none
@[simp] theorem refA_ref {a : Addr} : refA (some (.p (.ref a))) = some a := (rfl)
def wF (w : Om) (a : Addr) : Option Nat := match w a with
  | some (.fn n) => some n
  | _ => none
theorem wF_of {a : Addr} {n : Nat} (e : w a = some (.fn n)) : wF w a = some n := by unfold wF; rw [e]
@[simp] theorem ev_callF {i : Nat} {ms : List (Sl → Om → Out D)} : eCallF i ms r w = ocase (refA r[i]?) fun a => ocase (wF w a) fun n => ocase ms[n]? fun m => (m (noO r) w).at r := by
  unfold eCallF refA
  cases e : r[i]? with
  | none => rfl
  | some s =>
    cases s <;> (try rfl)
    rename_i d
    cases d <;> (try rfl)
    rename_i a
    show _ = ocase (wF w a) _
    unfold wF
    dsimp only
    cases e2 : w a with
    | none => rfl
    | some mo =>
      cases mo <;> (try rfl)
      rename_i n
      show _ = ocase ms[n]? _
      dsimp only
      cases ms[n]? <;> rfl
@[simp] theorem noO_nil : noO [] = [] := (rfl)
@[simp] theorem noO_p {d : D} : noO (.p d :: r) = .p d :: noO r := (rfl)
@[simp] theorem noO_o {l : List D} : noO (.o l :: r) = .no :: noO r := (rfl)
@[simp] theorem noO_no : noO (.no :: r) = .no :: noO r := (rfl)
def no1 : Slot → Slot
  | .o _ => .no
  | d => d
@[simp] theorem no1_p {d : D} : no1 (.p d) = .p d := (rfl)
@[simp] theorem no1_o {l : List D} : no1 (.o l) = .no := (rfl)
@[simp] theorem no1_no : no1 .no = .no := (rfl)
theorem noO_any {s : Slot} : noO (s :: r) = no1 s :: noO r := by cases s <;> rfl
/-! repeats -/
theorem ev_dRep {l : List D} {k : Int} : dRep (.tup l) (.int k) w = if l = [] then .stuck else if k = 1 then .ok (.tup l) w else if 2 ≤ k ∧ k ≤ 1000 ∧ l.length ≤ 1000 then .ok (.tup (repD k.toNat l)) w else .stuck := (rfl)
theorem rep_row {p : Nat} [LA.Pr p] {n : Nat} (h : 1 ≤ n) (h2 : n ≤ 1000) : dRep (.tup [.int 0]) (.int n) w = .ok (row (LA.zer p n)) w := by
  have e : row (LA.zer p n) = .tup (List.replicate n (.int 0)) := by
    unfold row LA.zer
    rw [List.map_replicate]
    rfl
  rw [ev_dRep, e, if_neg (by simp)]
  by_cases q : n = 1
  · subst q
    rfl
  · rw [if_neg (by omega), if_pos ⟨by omega, by omega, by simp⟩]
    congr 2
    unfold repD
    simp
end
end DL

set_option Elab.async false
set_option linter.all false
set_option maxRecDepth 100000
set_option maxHeartbeats 1000000
/-! EV6: equality of plain data. -/
namespace DL
open PySem PySem.Spec L2
open PyProof.Rows hiding St
/-- ints, texts, None; tuples and lists of such, so deep -/
def plN : Nat → D → Bool
  | _, .int _ => true
  | _, .str x => SeqAt.shaped (.str x)
  | _, .non => true
  | n + 1, .tup l => l.all (plN n)
  | n + 1, .lst l => l.all (plN n)
  | _, _ => false
theorem plN_py : ∀ (n : Nat) (d : D), plN n d = true → ∃ x, d.py = some x ∧ x.canLay0 = true ∧ x.depth ≤ n
  | n, .int i, h => ⟨.int i, by unfold D.py; rfl, rfl, by unfold PyData.depth; omega⟩
  | n, .non, h => ⟨.none, by unfold D.py; rfl, rfl, by unfold PyData.depth; omega⟩
  | n, .str x, h => by
    refine ⟨.str x, by unfold D.py; rfl, ?_, by unfold PyData.depth; omega⟩
    unfold plN at h
    exact SeqAt.canLay_of_shaped h
  | n + 1, .tup l, h => by
    unfold plN at h
    have : ∃ xs, D.pys l = some xs ∧ PyData.canLayAll0 xs = true ∧ PyData.depthAll xs ≤ n := by
      induction l with
      | nil => exact ⟨[], by unfold D.pys; rfl, rfl, by unfold PyData.depthAll; omega⟩
      | cons d l ih =>
        simp only [List.all_cons, Bool.and_eq_true] at h
        obtain ⟨x, h1, h2, h3⟩ := plN_py n d h.1
        obtain ⟨xs, k1, k2, k3⟩ := ih h.2
        refine ⟨x :: xs, by unfold D.pys; rw [h1, k1]; rfl, ?_, ?_⟩
        · unfold PyData.canLayAll0
          rw [h2, k2]
          rfl
        · unfold PyData.depthAll
          omega
    obtain ⟨xs, k1, k2, k3⟩ := this
    refine ⟨.tuple xs, by unfold D.py; rw [k1]; rfl, ?_, ?_⟩
    · unfold PyData.canLay0
      exact k2
    · unfold PyData.depth
      omega
  | n + 1, .lst l, h => by
    unfold plN at h
    have : ∃ xs, D.pys l = some xs ∧ PyData.canLayAll0 xs = true ∧ PyData.depthAll xs ≤ n := by
      induction l with
      | nil => exact ⟨[], by unfold D.pys; rfl, rfl, by unfold PyData.depthAll; omega⟩
      | cons d l ih =>
        simp only [List.all_cons, Bool.and_eq_true] at h
        obtain ⟨x, h1, h2, h3⟩ := plN_py n d h.1
        obtain ⟨xs, k1, k2, k3⟩ := ih h.2
        refine ⟨x :: xs, by unfold D.pys; rw [h1, k1]; rfl, ?_, ?_⟩
        · unfold PyData.canLayAll0
          rw [h2, k2]
          rfl
        · unfold PyData.depthAll
          omega
    obtain ⟨xs, k1, k2, k3⟩ := this
    refine ⟨.list xs, by unfold D.py; rw [k1]; rfl, ?_, ?_⟩
    · unfold PyData.canLay0
      exact k2
    · unfold PyData.depth
      omega
  | 0, .tup _, h => by unfold plN at h; cases h
  | 0, .lst _, h => by unfold plN at h; cases h
  | n, .bl _, h => by cases n <;> (unfold plN at h; cases h)
  | n, .fl _, h => by cases n <;> (unfold plN at h; cases h)
  | n, .ref _, h => by cases n <;> (unfold plN at h; cases h)
theorem tup_inj {l m : List D} : (D.tup l = D.tup m) ↔ l = m := ⟨fun h => by injection h, fun h => by rw [h]⟩
theorem lst_inj {l m : List D} : (D.lst l = D.lst m) ↔ l = m := ⟨fun h => by injection h, fun h => by rw [h]⟩
theorem int_inj {l m : Int} : (D.int l = D.int m) ↔ l = m := ⟨fun h => by injection h, fun h => by rw [h]⟩
theorem str_inj {l m : Str} : (D.str l = D.str m) ↔ l = m := ⟨fun h => by injection h, fun h => by rw [h]⟩
theorem eqvs_iff {n : Nat} (ih : ∀ (d e : D) (x y : PyData), plN n d = true → plN n e = true → d.py = some x → e.py = some y → (PyData.eqv x y = true ↔ d = e)) :
    ∀ (l m : List D) (xs ys : List PyData), l.all (plN n) = true → m.all (plN n) = true → D.pys l = some xs → D.pys m = some ys → (PyData.eqvAll xs ys = true ↔ l = m)
  | [], [], xs, ys, _, _, h, k => by
    unfold D.pys at h k
    cases h; cases k
    simp [PyData.eqvAll]
  | [], e :: m, xs, ys, _, _, h, k => by
    unfold D.pys at h k
    cases h
    obtain ⟨y, k1, k2⟩ := Option.bind_eq_some_iff.mp k
    obtain ⟨ys', k3, k4⟩ := Option.map_eq_some_iff.mp k2
    subst k4
    simp [PyData.eqvAll]
  | d :: l, [], xs, ys, _, _, h, k => by
    unfold D.pys at h k
    cases k
    obtain ⟨y, k1, k2⟩ := Option.bind_eq_some_iff.mp h
    obtain ⟨ys', k3, k4⟩ := Option.map_eq_some_iff.mp k2
    subst k4
    simp [PyData.eqvAll]
  | d :: l, e :: m, xs, ys, hd, he, h, k => by
    unfold D.pys at h k
    obtain ⟨y, k1, k2⟩ := Option.bind_eq_some_iff.mp k
    obtain ⟨ys', k3, k4⟩ := Option.map_eq_some_iff.mp k2
    obtain ⟨x, h1, h2⟩ := Option.bind_eq_some_iff.mp h
    obtain ⟨xs', h3, h4⟩ := Option.map_eq_some_iff.mp h2
    subst h4 k4
    simp only [List.all_cons, Bool.and_eq_true] at hd he
    unfold PyData.eqvAll
    rw [Bool.and_eq_true, ih d e x y hd.1 he.1 h1 k1, eqvs_iff ih l m xs' ys' hd.2 he.2 h3 k3, List.cons.injEq]
theorem eqv_iff : ∀ (n : Nat) (d e : D) (x y : PyData), plN n d = true → plN n e = true → d.py = some x → e.py = some y → (PyData.eqv x y = true ↔ d = e) := by
  intro n
  induction n with
  | zero =>
    intro d e x y hd he hx hy
    cases d <;> (try (unfold plN at hd; cases hd; done)) <;> cases e <;> (try (unfold plN at he; cases he; done)) <;> (unfold D.py at hx hy; cases hx; cases hy; simp [PyData.eqv])
  | succ n ih =>
    intro d e x y hd he hx hy
    cases d <;> (try (unfold plN at hd; cases hd; done)) <;> cases e <;> (try (unfold plN at he; cases he; done)) <;> (try (unfold D.py at hx hy; cases hx; cases hy; simp [PyData.eqv]; done))
    all_goals unfold D.py at hx hy
    all_goals first
      | (obtain ⟨xs, k1, rfl⟩ := Option.map_eq_some_iff.mp hx
         obtain ⟨ys, k2, rfl⟩ := Option.map_eq_some_iff.mp hy
         first
           | (rw [tup_inj, ← eqvs_iff ih _ _ xs ys hd he k1 k2]; unfold PyData.eqv; exact Iff.rfl)
           | (rw [lst_inj, ← eqvs_iff ih _ _ xs ys hd he k1 k2]; unfold PyData.eqv; exact Iff.rfl)
           | simp [PyData.eqv])
      | (obtain ⟨xs, k1, rfl⟩ := Option.map_eq_some_iff.mp hx
         cases hy
         simp [PyData.eqv])
      | (obtain ⟨ys, k2, rfl⟩ := Option.map_eq_some_iff.mp hy
         cases hx
         simp [PyData.eqv])
theorem eqS_iff {d e : D} {b : Bool} (h : D.eqS d e = some b) (hd : ∀ c, d ≠ .bl c) : b = true ↔ d = e := by
  cases d <;> cases e <;> simp [D.eqS] at h <;> (try (exact absurd rfl (hd _))) <;> subst h <;> simp
theorem eq?_pl {d e : D} (hd : plN 60 d = true) (he : plN 60 e = true) : ∃ b, D.eq? d e = some b ∧ (b = true ↔ d = e) := by
  unfold D.eq?
  cases q : D.eqS d e with
  | some b => exact ⟨b, rfl, eqS_iff q fun c z => by rw [z] at hd; unfold plN at hd; cases hd⟩
  | none =>
    obtain ⟨x, h1, h2, h3⟩ := plN_py 60 d hd
    obtain ⟨y, k1, k2, k3⟩ := plN_py 60 e he
    have s1 : SeqAt.shaped x = true := by unfold SeqAt.shaped; rw [h2, decide_eq_true (by omega : x.depth ≤ 64)]; rfl
    have s2 : SeqAt.shaped y = true := by unfold SeqAt.shaped; rw [k2, decide_eq_true (by omega : y.depth ≤ 64)]; rfl
    refine ⟨PyData.eqv x y, ?_, eqv_iff 60 d e x y hd he h1 k1⟩
    unfold D.eqv?
    rw [h1, k1]
    dsimp only
    rw [if_pos ⟨s1, s2⟩]
theorem eq?_self {d : D} (hd : plN 60 d = true) : D.eq? d d = some true := by
  obtain ⟨b, h1, h2⟩ := eq?_pl hd hd
  rw [h1, h2.mpr rfl]
theorem eq?_dec {d e : D} {P : Prop} [Decidable P] (hd : plN 60 d = true) (he : plN 60 e = true) (h : d = e ↔ P) : D.eq? d e = some (decide P) := by
  obtain ⟨b, h1, h2⟩ := eq?_pl hd he
  rw [h1]
  congr 1
  rw [Bool.eq_iff_iff, h2, h, decide_eq_true_iff]
section
variable {p : Nat} [hp : LA.Pr p]
open LA
theorem pl_row {x : Vc p} {n : Nat} : plN (n + 1) (row x) = true := by
  unfold row plN
  simp
  intro b _
  cases n <;> rfl
theorem pl_tab {t : List (Vc p)} {n : Nat} : plN (n + 2) (tab t) = true := by
  unfold tab plN
  simp
  exact fun x _ => pl_row
theorem row_inj {x y : Vc p} : row x = row y ↔ x = y := by
  constructor
  · intro h
    have h := tup_inj.mp h
    refine (List.map_inj_right fun a b e => ?_).mp h
    have := int_inj.mp e
    exact Fin.ext (by omega)
  · intro h
    rw [h]
theorem tab_inj {x y : List (Vc p)} : tab x = tab y ↔ x = y := by
  constructor
  · intro h
    exact (List.map_inj_right fun a b e => row_inj.mp e).mp (tup_inj.mp h)
  · intro h
    rw [h]
@[simp] theorem eq_row {x y : Vc p} : D.eq? (row x) (row y) = some (decide (x = y)) := eq?_dec pl_row pl_row row_inj
@[simp] theorem eq_tab {x y : List (Vc p)} : D.eq? (tab x) (tab y) = some (decide (x = y)) := eq?_dec pl_tab pl_tab tab_inj
end
end DL

set_option Elab.async false
set_option linter.all false
set_option maxRecDepth 100000
set_option maxHeartbeats 1000000
/-! EV7: members of lists, sets in order, greatest, several except clauses. -/
namespace DL
open PySem PySem.Spec L2
open PyProof.Rows hiding St
theorem pys_any {d : D} {x : PyData} (hd : plN 59 d = true) (hx : d.py = some x) : ∀ (l : List D), l.all (plN 59) = true → ∃ xs, D.pys l = some xs ∧ ((xs.any fun z => PyData.eqv z x) = true ↔ d ∈ l)
  | [], _ => ⟨[], by unfold D.pys; rfl, by simp⟩
  | e :: l, h => by
    rw [List.all_cons, Bool.and_eq_true] at h
    obtain ⟨y, h1, h2, h3⟩ := plN_py 59 e h.1
    obtain ⟨xs, k1, k2⟩ := pys_any hd hx l h.2
    refine ⟨y :: xs, by unfold D.pys; rw [h1, k1]; rfl, ?_⟩
    rw [List.any_cons, Bool.or_eq_true, k2, eqv_iff 59 e d y x h.1 hd h1 hx, List.mem_cons]
    exact ⟨fun q => q.imp (fun z => z.symm) id, fun q => q.imp (fun z => z.symm) id⟩
/-- in a list of plain data -/
theorem in_list {d : D} {l : List D} {P : Prop} [Decidable P] (hP : d ∈ l ↔ P) (hd : plN 59 d = true) (hl : l.all (plN 59) = true) (nf : D.flat d = none) : D.in? d (.lst l) = some (decide P) := by
  obtain ⟨x, h1, h2, h3⟩ := plN_py 59 d hd
  obtain ⟨xs, k1, k2⟩ := pys_any hd h1 l hl
  have hL : plN 60 (.lst l) = true := hl
  obtain ⟨y, m1, m2, m3⟩ := plN_py 60 (.lst l) hL
  have ey : y = .list xs := by
    unfold D.py at m1
    rw [k1] at m1
    cases m1
    rfl
  subst ey
  have s1 : SeqAt.shaped x = true := by unfold SeqAt.shaped; rw [h2, decide_eq_true (by omega : x.depth ≤ 64)]; rfl
  have s2 : SeqAt.shaped (.list xs) = true := by unfold SeqAt.shaped; rw [m2, decide_eq_true (by omega : (PyData.list xs).depth ≤ 64)]; rfl
  have e1 : D.inF d (.lst l) = none := by unfold D.inF; rw [nf]
  have e3 : (xs.any fun z => PyData.eqv z x) = decide P := by
    rw [Bool.eq_iff_iff, k2, hP, decide_eq_true_iff]
  have e2 : D.inL d (.lst l) = some (decide P) := by
    unfold D.inL
    dsimp only
    rw [h1, k1]
    dsimp only
    rw [if_pos ⟨s1, s2⟩, e3]
  unfold D.in?
  rw [e1, e2]
theorem flats_int : ∀ l : List Int, D.flats (l.map .int) = some (l.map V.int)
  | [] => rfl
  | i :: l => by
    show ((D.flat (.int i)).bind fun x => (D.flats (l.map .int)).map (x :: ·)) = _
    rw [flats_int l]
    rfl
theorem inV_int {i : Int} : ∀ l : List Int, inV (V.int i) (l.map V.int) = decide (i ∈ l)
  | [] => by simp [inV]
  | j :: l => by
    have := inV_int (i := i) l
    by_cases e : i = j
    · subst e
      simp [inV, eqV]
    · have e' : ¬ j = i := fun z => e z.symm
      unfold inV at this ⊢
      rw [List.map_cons, List.any_cons, this]
      simp [eqV, e, e']
@[simp] theorem in_ints {i : Int} {l : List Int} : D.in? (.int i) (.lst (l.map .int)) = some (decide (i ∈ l)) := by
  unfold D.in? D.inF
  have : (D.items (.lst (l.map D.int))).bind D.flats = some (l.map V.int) := flats_int l
  rw [this]
  dsimp only [D.flat]
  rw [inV_int]
section
variable {p : Nat} [hp : LA.Pr p] {r : Sl} {w : Om} {fs : Sl → Om → Out (List D)}
@[simp] theorem in_rows {x : LA.Vc p} {F : List (LA.Vc p)} : D.in? (row x) (.lst (F.map row)) = some (decide (x ∈ F)) := by
  have : row x ∈ F.map row ↔ x ∈ F := by
    rw [List.mem_map]
    constructor
    · rintro ⟨y, h, e⟩
      rw [← row_inj.mp e]
      exact h
    · intro h
      exact ⟨x, h, rfl⟩
  exact in_list this pl_row (by rw [List.all_eq_true]; intro d hd; obtain ⟨y, _, rfl⟩ := List.mem_map.mp hd; exact pl_row) rfl
/-! sorted(set(..)) -/
def ssK (ds : List D) (w : Om) : Out Slot := match ds with
  | [d] => ocase ((D.ls? d).bind D.ints?) fun ns => if ns.length < 64 then .ok (.o ((setSort ns).map .int)) w else .stuck
  | _ => .stuck
@[simp] theorem ssK_lst {l : List D} : ssK [.lst l] w = ocase (D.ints? l) fun ns => if ns.length < 64 then .ok (.o ((setSort ns).map .int)) w else .stuck := (rfl)
@[simp] theorem ev_seSetSort : seSetSort fs r w = (fs r w).bind ssK := by
  unfold seSetSort ssK ocase
  first
    | done
    | rfl
    | (congr 1
       funext ds w
       match ds with
       | [] => rfl
       | [d] => (dsimp only; cases ((D.ls? d).bind D.ints?) <;> rfl)
       | _ :: _ :: _ => rfl)
@[simp] theorem ints_map' {ns : List Int} : D.ints? (ns.map .int) = some ns := ints_map ns
/-! max -/
@[simp] theorem max_row {a : Fin p} {x : LA.Vc p} : cMax [row (a :: x)] w = .ok (.int (maxI (a.val : Int) (x.map fun b => (b.val : Int)))) w := by
  unfold cMax
  have : (D.items (row (a :: x))).bind D.ints? = some ((a.val : Int) :: x.map fun b => (b.val : Int)) := by
    show D.ints? ((a :: x).map fd) = _
    rw [show (a :: x).map fd = (((a.val : Int) :: x.map fun b => (b.val : Int))).map D.int by simp]
    exact ints_map _
  dsimp only
  rw [this]
theorem maxI_ge (a : Int) (l : List Int) : a ≤ maxI a l ∧ (∀ b ∈ l, b ≤ maxI a l) ∧ maxI a l ∈ a :: l := by
  unfold maxI
  induction l generalizing a with
  | nil => simp
  | cons b l ih =>
    rw [List.foldl_cons]
    obtain ⟨h1, h2, h3⟩ := ih (max a b)
    refine ⟨by omega, fun c hc => ?_, ?_⟩
    · rcases List.mem_cons.mp hc with rfl | hc
      · omega
      · exact h2 c hc
    · rcases List.mem_cons.mp h3 with h3 | h3
      · by_cases q : a ≤ b
        · rw [h3, Int.max_eq_right q]
          simp
        · rw [h3, Int.max_eq_left (by omega)]
          simp
      · exact List.mem_cons_of_mem _ (List.mem_cons_of_mem _ h3)
theorem max_pos {x : LA.Vc p} {n : Nat} (h : x.length = n) (hn : 1 ≤ n) : ∃ m : Int, cMax [row x] w = .ok (.int m) w ∧ (0 < m ↔ LA.lead x ≠ none) := by
  cases x with
  | nil => simp at h; omega
  | cons a x =>
    refine ⟨_, max_row, ?_⟩
    obtain ⟨h1, h2, h3⟩ := maxI_ge (a.val : Int) (x.map fun b => (b.val : Int))
    constructor
    · intro q z
      have z0 := LA.lead_none z
      have : ∀ b ∈ a :: x, b = 0 := fun b hb => by
        obtain ⟨i, hi, rfl⟩ := List.mem_iff_getElem.mp hb
        rw [← LA.ent_at hi]
        exact z0 i
      have k : maxI (a.val : Int) (x.map fun b => (b.val : Int)) = 0 := by
        rcases List.mem_cons.mp h3 with e | e
        · rw [e, this a (List.mem_cons_self ..)]
          exact val0
        · obtain ⟨b, hb, e⟩ := List.mem_map.mp e
          rw [← e, this b (List.mem_cons_of_mem _ hb)]
          exact val0
      omega
    · intro q
      cases e : LA.lead (a :: x) with
      | none => exact absurd e q
      | some l =>
        obtain ⟨l1, l2, l3⟩ := LA.lead_some e
        rw [LA.ent_at l1] at l2
        have pos : ∀ b : Fin p, b ≠ 0 → (0 : Int) < b.val := fun b hb => by
          have : b.val ≠ 0 := fun z => hb (Fin.ext z)
          omega
        have hm := List.getElem_mem l1
        rcases List.mem_cons.mp hm with e | e
        · have := pos _ l2
          rw [e] at this
          omega
        · have := h2 _ (List.mem_map.mpr ⟨_, e, rfl⟩)
          have := pos _ l2
          omega
end
/-! several clauses -/
section
variable {r : Sl} {w : Om} {g : Sl → Om → Out Res} {gs : Sl → Om → Out Res} {i : Option Nat} {exm : Str → Option Bool} {l : List HD} {e : Exn}
@[simp] theorem ev_tryM : sTryM l g r w = (g r w).catch (hands l) := (rfl)
theorem hands_yes (h : exm e.cls = some true) : hands ((i, exm, gs) :: l) e r w = ((gs (offS i r) w).calm).bind fun res w => .ok (offR i res) w := by
  unfold hands
  rw [h]
theorem hands_no (h : exm e.cls = some false) : hands ((i, exm, gs) :: l) e r w = hands l e r w := by
  conv => lhs; unfold hands
  rw [h]
@[simp] theorem offS_some {j : Nat} : offS (some j) r = r.set j .no := (rfl)
@[simp] theorem offR_some {j : Nat} {res : Res} : offR (some j) res = resNo j res := (rfl)
@[simp] theorem offS_none : offS none r = r := (rfl)
@[simp] theorem offR_none {res : Res} : offR none res = res := (rfl)
end
/-! loops that know the turn -/
section
variable {r : Sl} {w : Om} {s : Sl → Om → Out Res} {α β : Type}
theorem forGo_foldi {σ : Type} {bd : D → Sl → Option Sl} {E : α → D} (S : Nat → σ → Sl → Prop) (F : σ → α → σ) : ∀ (l : List α) (i : Nat) (x : σ) (r : Sl), S i x r → (∀ j x a r, a ∈ l → i ≤ j → j < i + l.length → S j x r → OkN (ocase (bd (E a) r) fun r1 => s r1 w) w (S (j + 1) (F x a))) →
    ∃ r', forGo bd s (l.map E) r w = .ok (.nx r') w ∧ S (i + l.length) (l.foldl F x) r'
  | [], i, x, r, h0, _ => ⟨r, rfl, h0⟩
  | a :: l, i, x, r, h0, h => by
    obtain ⟨r2, e, hs⟩ := h i x a r (List.mem_cons_self ..) (Nat.le_refl _) (by rw [List.length_cons]; omega) h0
    cases q : bd (E a) r with
    | none => rw [q] at e; cases e
    | some r1 =>
      rw [q] at e
      obtain ⟨r', h4, h5⟩ := forGo_foldi S F l (i + 1) (F x a) r2 hs fun j x b r hb hi hj hx => h j x b r (List.mem_cons_of_mem _ hb) (by omega) (by rw [List.length_cons]; omega) hx
      refine ⟨r', ?_, by rw [List.length_cons, show i + (l.length + 1) = i + 1 + l.length by omega]; exact h5⟩
      have e' : s r1 w = .ok (.nx r2) w := e
      rw [List.map_cons, forGo_cons' q, e']
      exact h4
theorem forGo_Zi {σ : Type} {bd : D → Sl → Option Sl} {l : List α} {E : α → D} {k : Res → Om → Out β} (Z : Out β → Prop) (S : Nat → σ → Sl → Prop) (F : σ → α → σ) (s0 : σ) (h0 : S 0 s0 r) (h : ∀ j x a r, a ∈ l → j < l.length → S j x r → OkN (ocase (bd (E a) r) fun r1 => s r1 w) w (S (j + 1) (F x a)))
    (hk : ∀ r', S l.length (l.foldl F s0) r' → Z (k (.nx r') w)) : Z ((forGo bd s (l.map E) r w).bind k) := by
  obtain ⟨r', h1, h2⟩ := forGo_foldi (w := w) (bd := bd) (s := s) (E := E) S F l 0 s0 r h0 fun j x a r ha _ hj hx => h j x a r ha (by omega) hx
  rw [h1]
  rw [Nat.zero_add] at h2
  exact hk r' h2
theorem forGo_Bi {σ : Type} {bd : D → Sl → Option Sl} {l : List α} {E : α → D} {k : Res → Om → Out β} {X : Out β} (S : Nat → σ → Sl → Prop) (F : σ → α → σ) (s0 : σ) (h0 : S 0 s0 r) (h : ∀ j x a r, a ∈ l → j < l.length → S j x r → OkN (ocase (bd (E a) r) fun r1 => s r1 w) w (S (j + 1) (F x a)))
    (hk : ∀ r', S l.length (l.foldl F s0) r' → k (.nx r') w = X) : (forGo bd s (l.map E) r w).bind k = X := forGo_Zi (fun o => o = X) S F s0 h0 h hk
theorem forGo_Ni {σ : Type} {bd : D → Sl → Option Sl} {l : List α} {E : α → D} {k : Res → Om → Out Res} {w' : Om} {P : Sl → Prop} (S : Nat → σ → Sl → Prop) (F : σ → α → σ) (s0 : σ) (h0 : S 0 s0 r) (h : ∀ j x a r, a ∈ l → j < l.length → S j x r → OkN (ocase (bd (E a) r) fun r1 => s r1 w) w (S (j + 1) (F x a)))
    (hk : ∀ r', S l.length (l.foldl F s0) r' → OkN (k (.nx r') w) w' P) : OkN ((forGo bd s (l.map E) r w).bind k) w' P := forGo_Zi (fun o => OkN o w' P) S F s0 h0 h hk
/-! lists kept as a name's own -/
@[simp] theorem ev_se2 {fa fb : Sl → Om → Out D} {op : D → D → Om → Out DL.Slot} : se2 fa fb op r w = (fa r w).bind fun x w => (fb r w).bind fun y w => op x y w := (rfl)
@[simp] theorem ev_oMul {l : List D} {k : Int} : oMul (.lst l) (.int k) w = if 0 ≤ k ∧ k < 2 ^ 63 ∧ l.length * k.toNat ≤ sizeLine then .ok (.o (List.replicate k.toNat l).flatten) w else .stuck := (rfl)
@[simp] theorem ev_oAdd {l m : List D} : oAdd (.lst l) (.lst m) w = if l.length + m.length ≤ sizeLine then .ok (.o (l ++ m)) w else .stuck := (rfl)
theorem flat_one {n : Nat} {d : D} : (List.replicate n [d]).flatten = List.replicate n d := by
  induction n with
  | zero => rfl
  | succ n ih => rw [List.replicate_succ, List.flatten_cons, ih, List.replicate_succ]; rfl
end
end DL

set_option Elab.async false
set_option linter.all false
set_option maxRecDepth 100000
set_option maxHeartbeats 1000000
/-! EV8: closures, while. -/
namespace DL
open PySem PySem.Spec L2
open PyProof.Rows hiding St
section
variable {r : Sl} {w : Om} {fs : Sl → Om → Out (List D)} {i n0 np n : Nat} {cs : List D} {m : List D → Om → Out D} {js : List Nat} {mG : List D → List D → Om → Out D}
@[simp] theorem fnAtW_set {a : Addr} : fnAtW (w.set a (.fn n0)) a n0 = true := by
  unfold fnAtW
  rw [Om.set_same]
  exact beq_self_eq_true _
@[simp] theorem ev_callC : eCallC i n0 np cs m fs r w = ocase (refA r[i]?) fun a => if fnAtW w a n0 = true then (fs r w).bind fun ds w1 => (if fnAtW w1 a n0 = true ∧ ds.length = np then (m (ds ++ cs) w1).at r else .stuck) else .stuck := by
  unfold eCallC refA ocase
  cases r[i]? with
  | none => rfl
  | some s =>
    cases s with
    | no => rfl
    | o l => rfl
    | p d => cases d <;> rfl
@[simp] theorem caps_nil : capsS r [] = some [] := (rfl)
theorem caps_cons {j : Nat} {d : D} (h : r[j]? = some (.p d)) : capsS r (j :: js) = (capsS r js).map (d :: ·) := by
  conv => lhs; unfold capsS
  rw [h]
@[simp] theorem ev_callLam : eCallLam n0 n js mG fs r w = ocase (capsS r js) fun cs => (fs r w).bind fun ds w1 => if ds.length + 1 = n then .frs w1 fun f => ((mG cs (ds ++ [.ref f]) (w1.set f (.fn n0))).calm).bind fun d w2 => .ok d (w2.unset f) else .stuck := by
  unfold eCallLam ocase
  cases capsS r js <;> rfl
/-- a callee that leaves the world alone -/
theorem frs_unset {F : Addr → Out D} {d : D} (h : ∀ f, w f = none → F f = .ok d (w.set f (.fn n0))) {P : D → Om → Prop} {E : Exn → Sl → Om → Prop} (hp : P d w) : (Out.frs w fun f => (F f).calm.bind fun d w2 => .ok d (w2.unset f)).Wp P E := by
  rw [Out.wp_frs]
  intro f hf
  rw [h f hf]
  show (Out.ok d ((w.set f (.fn n0)).unset f)).Wp P E
  rw [Om.unset_set hf]
  exact Out.wp_ok.mpr hp
/-! while -/
variable {t : Sl → Om → Out Bool} {g : Sl → Om → Out Res}
@[simp] theorem ev_sWhile : sWhile n t g r w = whGo t g n r w := (rfl)
theorem whGo_go {k : Nat} {r2 : Sl} (ht : t r w = .ok true w) (hg : g r w = .ok (.nx r2) w) : whGo t g (k + 1) r w = whGo t g k r2 w := by
  conv => lhs; unfold whGo
  rw [ht, Out.bind_ok, if_pos rfl, hg, Out.bind_ok]
theorem whGo_rt {k : Nat} {d : D} (ht : t r w = .ok true w) (hg : g r w = .ok (.rt d) w) : whGo t g (k + 1) r w = .ok (.rt d) w := by
  conv => lhs; unfold whGo
  rw [ht, Out.bind_ok, if_pos rfl, hg, Out.bind_ok]
theorem whGo_no {k : Nat} (ht : t r w = .ok false w) : whGo t g (k + 1) r w = .ok (.nx r) w := by
  conv => lhs; unfold whGo
  rw [ht, Out.bind_ok, if_neg Bool.false_ne_true]
end
end DL

set_option Elab.async false
set_option linter.all false
set_option maxRecDepth 100000
set_option maxHeartbeats 1000000
/-! EV9: programs that end with a value and leave the world alone (lambdas handed over come and go); raises with fields. -/
namespace DL
open PySem PySem.Spec L2
open PyProof.Rows hiding St
section
variable {α β : Type} {w : Om} {r : Sl} {n0 : Nat}
structure Evs (o : Out α) (d : α) (w : Om) : Prop where
  to : ∀ (P : α → Om → Prop) (E : Exn → Sl → Om → Prop), P d w → o.Wp P E
theorem Evs.ok {d : α} : Evs (.ok d w) d w := ⟨fun P E h => Out.wp_ok.mpr h⟩
theorem Evs.of {o : Out α} {d : α} (h : o = .ok d w) : Evs o d w := h ▸ Evs.ok
theorem Evs.wp {o : Out α} {d : α} {k : α → Om → Out β} {Q : β → Om → Prop} {E : Exn → Sl → Om → Prop} (h : Evs o d w) (q : (k d w).Wp Q E) : (o.bind k).Wp Q E := by
  rw [Out.wp_bind]
  exact h.to _ _ q
theorem Evs.bind {o : Out α} {d : α} {e : β} {k : α → Om → Out β} (h : Evs o d w) (q : Evs (k d w) e w) : Evs (o.bind k) e w := ⟨fun P E z => h.wp (q.to P E z)⟩
theorem Evs.at {o : Out α} {d : α} (h : Evs o d w) : Evs (o.at r) d w := ⟨fun P E z => by
  rw [Out.wp_at]
  exact h.to _ _ z⟩
theorem Evs.frs {F : Addr → Out α} {d : α} (h : ∀ f, w f = none → F f = .ok d (w.set f (.fn n0))) : Evs (Out.frs w fun f => (F f).calm.bind fun d w2 => .ok d (w2.unset f)) d w := ⟨fun P E hp => by
  rw [Out.wp_frs]
  intro f hf
  rw [h f hf]
  show (Out.ok d ((w.set f (.fn n0)).unset f)).Wp P E
  rw [Om.unset_set hf]
  exact Out.wp_ok.mpr hp⟩
theorem evs_congr_ {o o' : Out α} {d : α} (h : o = o') : Evs o d w = Evs o' d w := h ▸ rfl
theorem forGo_Mi {σ : Type} {s : Sl → Om → Out Res} {bd : D → Sl → Option Sl} {l : List α} {E : α → D} {P : Sl → Prop} (S : Nat → σ → Sl → Prop) (F : σ → α → σ) (s0 : σ) (h0 : S 0 s0 r) (h : ∀ j x a r, a ∈ l → j < l.length → S j x r → OkN (ocase (bd (E a) r) fun r1 => s r1 w) w (S (j + 1) (F x a)))
    (hk : ∀ r', S l.length (l.foldl F s0) r' → P r') : OkN (forGo bd s (l.map E) r w) w P := by
  obtain ⟨r', h1, h2⟩ := forGo_foldi (w := w) (bd := bd) (s := s) (E := E) S F l 0 s0 r h0 fun j x a r ha _ hj hx => h j x a r ha (by omega) hx
  rw [Nat.zero_add] at h2
  exact ⟨r', h1, hk r' h2⟩
variable {fs : Sl → Om → Out (List D)} {cn : Str} {fns : List Str}
@[simp] theorem ev_eCut {f : Sl → Om → Out D} {lo hi : Sl → Om → Out (Option Int)} : eCut f lo hi r w = (f r w).bind fun d w => (lo r w).bind fun l w => (hi r w).bind fun h w => dCut d l h w := (rfl)
@[simp] theorem ev_oNone : oNone r w = .ok none w := (rfl)
@[simp] theorem ev_oSome {f : Sl → Om → Out D} : oSome f r w = (f r w).bind fun d w => match d with
  | .int i => .ok (some i) w
  | _ => .stuck := (rfl)
@[simp] theorem ev_dCutT {l : List D} {lo hi : Option Int} : dCut (.tup l) lo hi w = .ok (.tup (cutD l lo hi)) w := (rfl)
@[simp] theorem ev_dCutL {l : List D} {lo hi : Option Int} : dCut (.lst l) lo hi w = .ok (.lst (cutD l lo hi)) w := (rfl)
@[simp] theorem ev_sRaiseF : sRaiseF cn fns fs r w = (fs r w).bind fun ds w => if ds.length = fns.length ∧ ds.length ≤ 900 then .exc ⟨cn, zipR fns ds []⟩ r w else .stuck := (rfl)
end
end DL

set_option Elab.async false
set_option linter.all false
set_option maxRecDepth 100000
set_option maxHeartbeats 4000000
namespace K03
open PySem PySem.Spec L2 DL
open PyProof.Rows hiding St
def top (i : Nat) : Stmt := PySem.Challenge.pw_driftstore_k03_whole_parts.main.body.getD i (.Pass ⟨0, 0, 0, 0⟩)
abbrev s_BadMachinezz_initzz : Stmt := inClass (top 2) 0
abbrev N_BadMachinezz_initzz : List Str := ["self", "part"]
theorem sc_BadMachinezz_initzz : FnScope N_BadMachinezz_initzz ["self", "part"] (defScope s_BadMachinezz_initzz) := ⟨rfl, rfl, rfl, by decide +kernel, rfl, by decide +kernel, by decide +kernel⟩
abbrev s_is_number : Stmt := top 5
abbrev N_is_number : List Str := ["value", "low", "high"]
theorem sc_is_number : FnScope N_is_number ["value", "low", "high"] (defScope s_is_number) := ⟨rfl, rfl, rfl, by decide +kernel, rfl, by decide +kernel, by decide +kernel⟩
abbrev s_is_row : Stmt := top 6
abbrev N_is_row : List Str := ["prime", "value", "many", "one"]
theorem sc_is_row : FnScope N_is_row ["prime", "value", "many"] (defScope s_is_row) := ⟨rfl, rfl, rfl, by decide +kernel, rfl, by decide +kernel, by decide +kernel⟩
abbrev s_inverse : Stmt := top 7
abbrev N_inverse : List Str := ["prime", "number", "one"]
theorem sc_inverse : FnScope N_inverse ["prime", "number"] (defScope s_inverse) := ⟨rfl, rfl, rfl, by decide +kernel, rfl, by decide +kernel, by decide +kernel⟩
abbrev s_added : Stmt := top 8
abbrev N_added : List Str := ["prime", "one", "other", "factor", "left", "right"]
theorem sc_added : FnScope N_added ["prime", "one", "other", "factor"] (defScope s_added) := ⟨rfl, rfl, rfl, by decide +kernel, rfl, by decide +kernel, by decide +kernel⟩
abbrev s_scaled : Stmt := top 9
abbrev N_scaled : List Str := ["prime", "row", "factor", "number"]
theorem sc_scaled : FnScope N_scaled ["prime", "row", "factor"] (defScope s_scaled) := ⟨rfl, rfl, rfl, by decide +kernel, rfl, by decide +kernel, by decide +kernel⟩
abbrev s_met : Stmt := top 10
abbrev N_met : List Str := ["prime", "one", "other", "left", "right"]
theorem sc_met : FnScope N_met ["prime", "one", "other"] (defScope s_met) := ⟨rfl, rfl, rfl, by decide +kernel, rfl, by decide +kernel, by decide +kernel⟩
abbrev s_times : Stmt := top 11
abbrev N_times : List Str := ["prime", "table", "column", "row"]
theorem sc_times : FnScope N_times ["prime", "table", "column"] (defScope s_times) := ⟨rfl, rfl, rfl, by decide +kernel, rfl, by decide +kernel, by decide +kernel⟩
abbrev s_behind : Stmt := top 12
abbrev N_behind : List Str := ["prime", "row", "table", "many", "at", "place"]
theorem sc_behind : FnScope N_behind ["prime", "row", "table"] (defScope s_behind) := ⟨rfl, rfl, rfl, by decide +kernel, rfl, by decide +kernel, by decide +kernel⟩
abbrev s_lead : Stmt := top 13
abbrev N_lead : List Str := ["row", "place", "number"]
theorem sc_lead : FnScope N_lead ["row"] (defScope s_lead) := ⟨rfl, rfl, rfl, by decide +kernel, rfl, by decide +kernel, by decide +kernel⟩
abbrev s_reduced : Stmt := top 14
abbrev N_reduced : List Str := ["prime", "rows", "found", "row", "own", "place"]
theorem sc_reduced : FnScope N_reduced ["prime", "rows"] (defScope s_reduced) := ⟨rfl, rfl, rfl, by decide +kernel, rfl, by decide +kernel, by decide +kernel⟩
abbrev s_noughts : Stmt := top 15
abbrev N_noughts : List Str := ["prime", "rows", "many", "stairs", "leads", "row", "found", "place", "column", "at"]
theorem sc_noughts : FnScope N_noughts ["prime", "rows", "many"] (defScope s_noughts) := ⟨rfl, rfl, rfl, by decide +kernel, rfl, by decide +kernel, by decide +kernel⟩
abbrev s_are_rows : Stmt := top 19
abbrev N_are_rows : List Str := ["prime", "value", "low", "high", "many", "row"]
theorem sc_are_rows : FnScope N_are_rows ["prime", "value", "low", "high", "many"] (defScope s_are_rows) := ⟨rfl, rfl, rfl, by decide +kernel, rfl, by decide +kernel, by decide +kernel⟩
abbrev s_need_machine : Stmt := top 20
abbrev N_need_machine : List Str := ["value", "prime", "stir", "writes", "sights"]
theorem sc_need_machine : FnScope N_need_machine ["value"] (defScope s_need_machine) := ⟨rfl, rfl, rfl, by decide +kernel, rfl, by decide +kernel, by decide +kernel⟩
abbrev s_stirred : Stmt := top 21
abbrev N_stirred : List Str := ["machine", "memory"]
theorem sc_stirred : FnScope N_stirred ["machine", "memory"] (defScope s_stirred) := ⟨rfl, rfl, rfl, by decide +kernel, rfl, by decide +kernel, by decide +kernel⟩
abbrev s_unit : Stmt := top 22
abbrev N_unit : List Str := ["many", "place", "at"]
theorem sc_unit : FnScope N_unit ["many", "place"] (defScope s_unit) := ⟨rfl, rfl, rfl, by decide +kernel, rfl, by decide +kernel, by decide +kernel⟩
abbrev s_grown : Stmt := top 24
abbrev N_grown : List Str := ["prime", "rows", "move", "found", "later", "row"]
theorem sc_grown : FnScope N_grown ["prime", "rows", "move"] (defScope s_grown) := ⟨rfl, rfl, rfl, by decide +kernel, rfl, by decide +kernel, by decide +kernel⟩
abbrev s_reached_of : Stmt := top 25
abbrev N_reached_of : List Str := ["machine"]
theorem sc_reached_of : FnScope N_reached_of ["machine"] (defScope s_reached_of) := ⟨rfl, rfl, rfl, by decide +kernel, rfl, by decide +kernel, by decide +kernel⟩
abbrev s_forms_of : Stmt := top 26
abbrev N_forms_of : List Str := ["machine"]
theorem sc_forms_of : FnScope N_forms_of ["machine"] (defScope s_forms_of) := ⟨rfl, rfl, rfl, by decide +kernel, rfl, by decide +kernel, by decide +kernel⟩
abbrev s_unseen_of : Stmt := top 27
abbrev N_unseen_of : List Str := ["machine"]
theorem sc_unseen_of : FnScope N_unseen_of ["machine"] (defScope s_unseen_of) := ⟨rfl, rfl, rfl, by decide +kernel, rfl, by decide +kernel, by decide +kernel⟩
abbrev s_both : Stmt := top 28
abbrev N_both : List Str := ["prime", "one", "other", "many", "against", "place"]
theorem sc_both : FnScope N_both ["prime", "one", "other", "many"] (defScope s_both) := ⟨rfl, rfl, rfl, by decide +kernel, rfl, by decide +kernel, by decide +kernel⟩
abbrev s_reached : Stmt := top 29
abbrev N_reached : List Str := ["machine"]
theorem sc_reached : FnScope N_reached ["machine"] (defScope s_reached) := ⟨rfl, rfl, rfl, by decide +kernel, rfl, by decide +kernel, by decide +kernel⟩
abbrev s_unseen : Stmt := top 30
abbrev N_unseen : List Str := ["machine"]
theorem sc_unseen : FnScope N_unseen ["machine"] (defScope s_unseen) := ⟨rfl, rfl, rfl, by decide +kernel, rfl, by decide +kernel, by decide +kernel⟩
abbrev s_lost_of : Stmt := top 31
abbrev N_lost_of : List Str := ["machine"]
theorem sc_lost_of : FnScope N_lost_of ["machine"] (defScope s_lost_of) := ⟨rfl, rfl, rfl, by decide +kernel, rfl, by decide +kernel, by decide +kernel⟩
abbrev s_lost : Stmt := top 32
abbrev N_lost : List Str := ["machine"]
theorem sc_lost : FnScope N_lost ["machine"] (defScope s_lost) := ⟨rfl, rfl, rfl, by decide +kernel, rfl, by decide +kernel, by decide +kernel⟩
abbrev s_keeps_of : Stmt := top 33
abbrev N_keeps_of : List Str := ["machine"]
theorem sc_keeps_of : FnScope N_keeps_of ["machine"] (defScope s_keeps_of) := ⟨rfl, rfl, rfl, by decide +kernel, rfl, by decide +kernel, by decide +kernel⟩
abbrev s_keeps : Stmt := top 34
abbrev N_keeps : List Str := ["machine"]
theorem sc_keeps : FnScope N_keeps ["machine"] (defScope s_keeps) := ⟨rfl, rfl, rfl, by decide +kernel, rfl, by decide +kernel, by decide +kernel⟩
abbrev s_law_taken : Stmt := top 36
abbrev N_law_taken : List Str := ["_law_row_here", "_law_many", "_law_found", "_law_cell"]
theorem sc_law_taken : FnScope N_law_taken ["_law_row_here", "_law_many"] (defScope s_law_taken) := ⟨rfl, rfl, rfl, by decide +kernel, rfl, by decide +kernel, by decide +kernel⟩
abbrev s_law_pick : Stmt := top 37
abbrev N_law_pick : List Str := ["_law_row_here", "_law_things"]
theorem sc_law_pick : FnScope N_law_pick ["_law_row_here", "_law_things"] (defScope s_law_pick) := ⟨rfl, rfl, rfl, by decide +kernel, rfl, by decide +kernel, by decide +kernel⟩
abbrev s_law_alike : Stmt := top 38
abbrev N_law_alike : List Str := ["_law_found", "_law_due", "_law_k"]
theorem sc_law_alike : FnScope N_law_alike ["_law_found", "_law_due"] (defScope s_law_alike) := ⟨rfl, rfl, rfl, by decide +kernel, rfl, by decide +kernel, by decide +kernel⟩
abbrev s_law_row : Stmt := top 39
abbrev N_law_row : List Str := ["_law_row_here", "_law_prime", "_law_many", "_law_place"]
theorem sc_law_row : FnScope N_law_row ["_law_row_here", "_law_prime", "_law_many"] (defScope s_law_row) := ⟨rfl, rfl, rfl, by decide +kernel, rfl, by decide +kernel, by decide +kernel⟩
abbrev s_law_stir : Stmt := top 40
abbrev N_law_stir : List Str := ["_law_row_here", "_law_prime", "_law_many", "_law_found", "_law_one", "_law_other", "_law_turn", "_law_factor", "_law_left", "_law_right", "_law_line"]
theorem sc_law_stir : FnScope N_law_stir ["_law_row_here", "_law_prime", "_law_many"] (defScope s_law_stir) := ⟨rfl, rfl, rfl, by decide +kernel, rfl, by decide +kernel, by decide +kernel⟩
abbrev s_law_machine : Stmt := top 41
abbrev N_law_machine : List Str := ["_law_row_here", "_law_primes", "_law_cells", "_law_plugs", "_law_prime", "_law_many", "_law_writes", "_law_turn", "_law_sights"]
theorem sc_law_machine : FnScope N_law_machine ["_law_row_here", "_law_primes", "_law_cells", "_law_plugs"] (defScope s_law_machine) := ⟨rfl, rfl, rfl, by decide +kernel, rfl, by decide +kernel, by decide +kernel⟩
abbrev s_law_met : Stmt := top 42
abbrev N_law_met : List Str := ["_law_prime", "_law_one", "_law_other", "_law_left", "_law_right"]
theorem sc_law_met : FnScope N_law_met ["_law_prime", "_law_one", "_law_other"] (defScope s_law_met) := ⟨rfl, rfl, rfl, by decide +kernel, rfl, by decide +kernel, by decide +kernel⟩
abbrev s_law_added : Stmt := top 43
abbrev N_law_added : List Str := ["_law_prime", "_law_one", "_law_other", "_law_factor", "_law_left", "_law_right"]
theorem sc_law_added : FnScope N_law_added ["_law_prime", "_law_one", "_law_other", "_law_factor"] (defScope s_law_added) := ⟨rfl, rfl, rfl, by decide +kernel, rfl, by decide +kernel, by decide +kernel⟩
abbrev s_law_stirred : Stmt := top 44
abbrev N_law_stirred : List Str := ["_law_machine_here", "_law_memory", "_law_line"]
theorem sc_law_stirred : FnScope N_law_stirred ["_law_machine_here", "_law_memory"] (defScope s_law_stirred) := ⟨rfl, rfl, rfl, by decide +kernel, rfl, by decide +kernel, by decide +kernel⟩
abbrev s_law_span : Stmt := top 45
abbrev N_law_span : List Str := ["_law_prime", "_law_rows_here", "_law_many", "_law_found", "_law_one", "_law_later", "_law_factor", "_law_own"]
theorem sc_law_span : FnScope N_law_span ["_law_prime", "_law_rows_here", "_law_many"] (defScope s_law_span) := ⟨rfl, rfl, rfl, by decide +kernel, rfl, by decide +kernel, by decide +kernel⟩
abbrev s_law_lead : Stmt := top 46
abbrev N_law_lead : List Str := ["_law_one", "_law_place", "_law_number"]
theorem sc_law_lead : FnScope N_law_lead ["_law_one"] (defScope s_law_lead) := ⟨rfl, rfl, rfl, by decide +kernel, rfl, by decide +kernel, by decide +kernel⟩
abbrev s_law_stairs : Stmt := top 47
abbrev N_law_stairs : List Str := ["_law_prime", "_law_lot", "_law_rows_here", "_law_one", "_law_leads", "_law_found", "_law_place", "_law_near", "_law_at"]
theorem sc_law_stairs : FnScope N_law_stairs ["_law_prime", "_law_lot"] (defScope s_law_stairs) := ⟨rfl, rfl, rfl, by decide +kernel, rfl, by decide +kernel, by decide +kernel⟩
abbrev s_law_rows : Stmt := top 48
abbrev N_law_rows : List Str := ["_law_prime", "_law_many", "_law_found", "_law_turn", "_law_longer", "_law_one", "_law_number"]
theorem sc_law_rows : FnScope N_law_rows ["_law_prime", "_law_many"] (defScope s_law_rows) := ⟨rfl, rfl, rfl, by decide +kernel, rfl, by decide +kernel, by decide +kernel⟩
abbrev s_law_reached : Stmt := top 49
abbrev N_law_reached : List Str := ["_law_machine_here", "_law_rows_here", "_law_found", "_law_write", "_law_one", "_law_tick"]
theorem sc_law_reached : FnScope N_law_reached ["_law_machine_here"] (defScope s_law_reached) := ⟨rfl, rfl, rfl, by decide +kernel, rfl, by decide +kernel, by decide +kernel⟩
abbrev s_law_unseen : Stmt := top 50
abbrev N_law_unseen : List Str := ["_law_machine_here", "_law_found", "_law_memory", "_law_seen", "_law_one", "_law_tick", "_law_sight"]
theorem sc_law_unseen : FnScope N_law_unseen ["_law_machine_here"] (defScope s_law_unseen) := ⟨rfl, rfl, rfl, by decide +kernel, rfl, by decide +kernel, by decide +kernel⟩
abbrev s_law_size : Stmt := top 51
abbrev N_law_size : List Str := ["_law_prime", "_law_many", "_law_found", "_law_turn"]
theorem sc_law_size : FnScope N_law_size ["_law_prime", "_law_many"] (defScope s_law_size) := ⟨rfl, rfl, rfl, by decide +kernel, rfl, by decide +kernel, by decide +kernel⟩
abbrev s_law_deed : Stmt := top 52
abbrev N_law_deed : List Str := ["_law_machine_here", "_law_memory", "_law_hand", "_law_one", "_law_prime", "_law_word", "_law_plug", "_law_seen"]
theorem sc_law_deed : FnScope N_law_deed ["_law_machine_here", "_law_memory", "_law_hand", "_law_one"] (defScope s_law_deed) := ⟨rfl, rfl, rfl, by decide +kernel, rfl, by decide +kernel, by decide +kernel⟩
abbrev s_law : Stmt := top 53
abbrev N_law : List Str := ["_law_script", "_law_row_here", "_law_machine_here", "_law_prime", "_law_can", "_law_never", "_law_both", "_law_one", "_law_told", "_law_turn", "_law_memory", "_law_deed_here", "_law_hand", "e"]
theorem sc_law : FnScope N_law ["_law_script"] (defScope s_law) := ⟨rfl, rfl, rfl, by decide +kernel, rfl, by decide +kernel, by decide +kernel⟩
structure Ad where
  f_BadMachinezz_initzz : Addr
  c_BadMachinezz_initzz : Value
  k_BadMachine : Addr
  f_is_number : Addr
  c_is_number : Value
  cc_is_row : Addr
  P_is_row : Addr
  f_is_row : Addr
  f_inverse : Addr
  c_inverse : Value
  f_added : Addr
  c_added : Value
  f_scaled : Addr
  c_scaled : Value
  f_met : Addr
  c_met : Value
  f_times : Addr
  c_times : Value
  f_behind : Addr
  c_behind : Value
  f_lead : Addr
  c_lead : Value
  f_reduced : Addr
  c_reduced : Value
  f_noughts : Addr
  c_noughts : Value
  cc_are_rows : Addr
  P_are_rows : Addr
  f_are_rows : Addr
  ti_MOST_PLUGS : Nat
  ti_MOST_CELLS : Nat
  g_PRIMES : Addr
  f_need_machine : Addr
  c_need_machine : Value
  f_stirred : Addr
  c_stirred : Value
  f_unit : Addr
  c_unit : Value
  f_grown : Addr
  c_grown : Value
  cc_reached_of : Addr
  P_reached_of : Addr
  f_reached_of : Addr
  cc_forms_of : Addr
  P_forms_of : Addr
  f_forms_of : Addr
  f_unseen_of : Addr
  c_unseen_of : Value
  f_both : Addr
  c_both : Value
  f_reached : Addr
  c_reached : Value
  f_unseen : Addr
  c_unseen : Value
  f_lost_of : Addr
  c_lost_of : Value
  f_lost : Addr
  c_lost : Value
  f_keeps_of : Addr
  c_keeps_of : Value
  f_keeps : Addr
  c_keeps : Value
  f_law_taken : Addr
  c_law_taken : Value
  f_law_pick : Addr
  c_law_pick : Value
  f_law_alike : Addr
  c_law_alike : Value
  f_law_row : Addr
  c_law_row : Value
  f_law_stir : Addr
  c_law_stir : Value
  f_law_machine : Addr
  c_law_machine : Value
  f_law_met : Addr
  c_law_met : Value
  f_law_added : Addr
  c_law_added : Value
  f_law_stirred : Addr
  c_law_stirred : Value
  f_law_span : Addr
  c_law_span : Value
  f_law_lead : Addr
  c_law_lead : Value
  f_law_stairs : Addr
  c_law_stairs : Value
  f_law_rows : Addr
  c_law_rows : Value
  f_law_reached : Addr
  c_law_reached : Value
  f_law_unseen : Addr
  c_law_unseen : Value
  f_law_size : Addr
  c_law_size : Value
  f_law_deed : Addr
  c_law_deed : Value
  f_law : Addr
  c_law : Value
structure Txt (K : PySem.W.Frag) (mg : Str → Option Value) (a : Ad) : Prop where
  d_BadMachinezz_initzz : DefAt K "__init__" "BadMachine.__init__" s_BadMachinezz_initzz [] a.f_BadMachinezz_initzz a.c_BadMachinezz_initzz
  ox_BadMachine : OexF K a.k_BadMachine a.f_BadMachinezz_initzz ["part"]
  z_isinstance : mg "isinstance" = none
  z_bool : mg "bool" = none
  z_int : mg "int" = none
  d_is_number : DefAt K "is_number" "is_number" s_is_number [] a.f_is_number a.c_is_number
  z_all : mg "all" = none
  m_is_number : mg "is_number" = some (.ref a.f_is_number)
  z_len : mg "len" = none
  z_tuple : mg "tuple" = none
  d_is_row : DefAt K "is_row" "is_row" s_is_row [] a.f_is_row (.ref a.cc_is_row)
  z_range : mg "range" = none
  d_inverse : DefAt K "inverse" "inverse" s_inverse [] a.f_inverse a.c_inverse
  z_zip : mg "zip" = none
  d_added : DefAt K "added" "added" s_added [.int 1] a.f_added a.c_added
  d_scaled : DefAt K "scaled" "scaled" s_scaled [] a.f_scaled a.c_scaled
  z_sum : mg "sum" = none
  d_met : DefAt K "met" "met" s_met [] a.f_met a.c_met
  m_met : mg "met" = some (.ref a.f_met)
  d_times : DefAt K "times" "times" s_times [] a.f_times a.c_times
  d_behind : DefAt K "behind" "behind" s_behind [] a.f_behind a.c_behind
  z_enumerate : mg "enumerate" = none
  d_lead : DefAt K "lead" "lead" s_lead [] a.f_lead a.c_lead
  z_sorted : mg "sorted" = none
  m_added : mg "added" = some (.ref a.f_added)
  m_inverse : mg "inverse" = some (.ref a.f_inverse)
  m_scaled : mg "scaled" = some (.ref a.f_scaled)
  m_lead : mg "lead" = some (.ref a.f_lead)
  d_reduced : DefAt K "reduced" "reduced" s_reduced [] a.f_reduced a.c_reduced
  m_reduced : mg "reduced" = some (.ref a.f_reduced)
  d_noughts : DefAt K "noughts" "noughts" s_noughts [] a.f_noughts a.c_noughts
  m_is_row : mg "is_row" = some (.ref a.f_is_row)
  d_are_rows : DefAt K "are_rows" "are_rows" s_are_rows [] a.f_are_rows (.ref a.cc_are_rows)
  c_MOST_PLUGS : mg "MOST_PLUGS" = some (.int 4 a.ti_MOST_PLUGS)
  m_are_rows : mg "are_rows" = some (.ref a.f_are_rows)
  c_MOST_CELLS : mg "MOST_CELLS" = some (.int 4 a.ti_MOST_CELLS)
  c_PRIMES : mg "PRIMES" = some (.ref a.g_PRIMES)
  kt_PRIMES : KT K a.g_PRIMES [.int 2, .int 3, .int 5, .int 7]
  d_need_machine : DefAt K "need_machine" "need_machine" s_need_machine [] a.f_need_machine a.c_need_machine
  m_times : mg "times" = some (.ref a.f_times)
  d_stirred : DefAt K "stirred" "stirred" s_stirred [] a.f_stirred a.c_stirred
  d_unit : DefAt K "unit" "unit" s_unit [] a.f_unit a.c_unit
  d_grown : DefAt K "grown" "grown" s_grown [] a.f_grown a.c_grown
  m_stirred : mg "stirred" = some (.ref a.f_stirred)
  z_list : mg "list" = none
  m_grown : mg "grown" = some (.ref a.f_grown)
  d_reached_of : DefAt K "reached_of" "reached_of" s_reached_of [] a.f_reached_of (.ref a.cc_reached_of)
  m_behind : mg "behind" = some (.ref a.f_behind)
  d_forms_of : DefAt K "forms_of" "forms_of" s_forms_of [] a.f_forms_of (.ref a.cc_forms_of)
  m_forms_of : mg "forms_of" = some (.ref a.f_forms_of)
  m_noughts : mg "noughts" = some (.ref a.f_noughts)
  d_unseen_of : DefAt K "unseen_of" "unseen_of" s_unseen_of [] a.f_unseen_of a.c_unseen_of
  m_unit : mg "unit" = some (.ref a.f_unit)
  d_both : DefAt K "both" "both" s_both [] a.f_both a.c_both
  m_reached_of : mg "reached_of" = some (.ref a.f_reached_of)
  m_need_machine : mg "need_machine" = some (.ref a.f_need_machine)
  d_reached : DefAt K "reached" "reached" s_reached [] a.f_reached a.c_reached
  m_unseen_of : mg "unseen_of" = some (.ref a.f_unseen_of)
  d_unseen : DefAt K "unseen" "unseen" s_unseen [] a.f_unseen a.c_unseen
  m_both : mg "both" = some (.ref a.f_both)
  d_lost_of : DefAt K "lost_of" "lost_of" s_lost_of [] a.f_lost_of a.c_lost_of
  m_lost_of : mg "lost_of" = some (.ref a.f_lost_of)
  d_lost : DefAt K "lost" "lost" s_lost [] a.f_lost a.c_lost
  d_keeps_of : DefAt K "keeps_of" "keeps_of" s_keeps_of [] a.f_keeps_of a.c_keeps_of
  m_keeps_of : mg "keeps_of" = some (.ref a.f_keeps_of)
  d_keeps : DefAt K "keeps" "keeps" s_keeps [] a.f_keeps a.c_keeps
  d_law_taken : DefAt K "_law_taken" "_law_taken" s_law_taken [] a.f_law_taken a.c_law_taken
  m_law_taken : mg "_law_taken" = some (.ref a.f_law_taken)
  d_law_pick : DefAt K "_law_pick" "_law_pick" s_law_pick [] a.f_law_pick a.c_law_pick
  z_str : mg "str" = none
  m_law_alike : mg "_law_alike" = some (.ref a.f_law_alike)
  d_law_alike : DefAt K "_law_alike" "_law_alike" s_law_alike [] a.f_law_alike a.c_law_alike
  d_law_row : DefAt K "_law_row" "_law_row" s_law_row [] a.f_law_row a.c_law_row
  d_law_stir : DefAt K "_law_stir" "_law_stir" s_law_stir [] a.f_law_stir a.c_law_stir
  m_law_stir : mg "_law_stir" = some (.ref a.f_law_stir)
  m_law_row : mg "_law_row" = some (.ref a.f_law_row)
  m_law_pick : mg "_law_pick" = some (.ref a.f_law_pick)
  d_law_machine : DefAt K "_law_machine" "_law_machine" s_law_machine [] a.f_law_machine a.c_law_machine
  d_law_met : DefAt K "_law_met" "_law_met" s_law_met [] a.f_law_met a.c_law_met
  d_law_added : DefAt K "_law_added" "_law_added" s_law_added [] a.f_law_added a.c_law_added
  m_law_met : mg "_law_met" = some (.ref a.f_law_met)
  d_law_stirred : DefAt K "_law_stirred" "_law_stirred" s_law_stirred [] a.f_law_stirred a.c_law_stirred
  m_law_added : mg "_law_added" = some (.ref a.f_law_added)
  d_law_span : DefAt K "_law_span" "_law_span" s_law_span [] a.f_law_span a.c_law_span
  d_law_lead : DefAt K "_law_lead" "_law_lead" s_law_lead [] a.f_law_lead a.c_law_lead
  m_law_lead : mg "_law_lead" = some (.ref a.f_law_lead)
  z_set : mg "set" = none
  z_max : mg "max" = none
  d_law_stairs : DefAt K "_law_stairs" "_law_stairs" s_law_stairs [] a.f_law_stairs a.c_law_stairs
  d_law_rows : DefAt K "_law_rows" "_law_rows" s_law_rows [] a.f_law_rows a.c_law_rows
  m_law_span : mg "_law_span" = some (.ref a.f_law_span)
  m_law_stirred : mg "_law_stirred" = some (.ref a.f_law_stirred)
  d_law_reached : DefAt K "_law_reached" "_law_reached" s_law_reached [] a.f_law_reached a.c_law_reached
  m_law_rows : mg "_law_rows" = some (.ref a.f_law_rows)
  d_law_unseen : DefAt K "_law_unseen" "_law_unseen" s_law_unseen [] a.f_law_unseen a.c_law_unseen
  d_law_size : DefAt K "_law_size" "_law_size" s_law_size [] a.f_law_size a.c_law_size
  d_law_deed : DefAt K "_law_deed" "_law_deed" s_law_deed [] a.f_law_deed a.c_law_deed
  m_keeps : mg "keeps" = some (.ref a.f_keeps)
  m_law_deed : mg "_law_deed" = some (.ref a.f_law_deed)
  m_law_size : mg "_law_size" = some (.ref a.f_law_size)
  m_law_stairs : mg "_law_stairs" = some (.ref a.f_law_stairs)
  m_lost : mg "lost" = some (.ref a.f_lost)
  m_unseen : mg "unseen" = some (.ref a.f_unseen)
  m_reached : mg "reached" = some (.ref a.f_reached)
  m_law_unseen : mg "_law_unseen" = some (.ref a.f_law_unseen)
  m_law_reached : mg "_law_reached" = some (.ref a.f_law_reached)
  m_law_machine : mg "_law_machine" = some (.ref a.f_law_machine)
  d_law : DefAt K "law" "law" s_law [] a.f_law a.c_law
  m_law : mg "law" = some (.ref a.f_law)
  ne_reached_of_is_row : (a.P_reached_of == a.P_is_row) = false
  ne_reached_of_are_rows : (a.P_reached_of == a.P_are_rows) = false
  ne_reached_of_forms_of : (a.P_reached_of == a.P_forms_of) = false
  ne_forms_of_is_row : (a.P_forms_of == a.P_is_row) = false
  ne_forms_of_are_rows : (a.P_forms_of == a.P_are_rows) = false
  ne_forms_of_reached_of : (a.P_forms_of == a.P_reached_of) = false
  mg_BadMachine : mg "BadMachine" = some (.ref a.k_BadMachine)
  xm_BadMachine_BadMachine : PySem.W.exmOne K (.ref a.k_BadMachine) (.ref a.k_BadMachine) = some true
structure Tin (base : Heap) (mg : Str → Option Value) (T : Tbl) (a : Ad) : Prop where
  tb_is_row : GxR.TabB base mg a.cc_is_row a.P_is_row
  in_is_row : a.P_is_row ∈ T
  no_is_row : ∀ p ∈ T.ls, p.1 ≠ a.P_is_row
  tb_are_rows : GxR.TabB base mg a.cc_are_rows a.P_are_rows
  in_are_rows : a.P_are_rows ∈ T
  no_are_rows : ∀ p ∈ T.ls, p.1 ≠ a.P_are_rows
theorem Tin.up {base base' : Heap} {mg : Str → Option Value} {T T' : Tbl} {a : Ad} (h : Tin base mg T a) (up : ∀ b o, base.get? b = some o → base'.get? b = some o) (ts : T'.ts = T.ts) (ls : T'.ls = T.ls) : Tin base' mg T' a := ⟨tabG_up up h.tb_is_row, (mem_ts ts h.in_is_row), (by rw [ls]; exact h.no_is_row), tabG_up up h.tb_are_rows, (mem_ts ts h.in_are_rows), (by rw [ls]; exact h.no_are_rows)⟩
def exm_BadMachine : Str → Option Bool := fun n => if n = "BadMachine" then some true else none
def g_is_number (a : Ad) : Sl → Om → Out Res :=
 (sRet (eAnd (e1 (eVar 0) (cIsi "int")) (eAnd (eNot (e1 (eVar 0) (cIsi "bool"))) (eChain (eVar 1) (eVar 0) (eVar 2) dLe dLe))))
def m_is_number (a : Ad) : List D → Om → Out D := fnD 3 (g_is_number a)
def g_is_row (a : Ad) : Sl → Om → Out Res :=
 (sRet (eAnd (e1 (eVar 1) (cIsi "tuple")) (eAnd (e2 (eB (aCons (eVar 1) aNil) cLen) (eVar 2) dEq) (eAll [3] (iSeq (eVar 1)) (bName 3) (eCallN 3 (m_is_number a) [] (aCons (eVar 3) (aCons (eC (.int 0)) (aCons (e2 (eVar 0) (eC (.int 1)) dSub) aNil))))))))
def m_is_row (a : Ad) : List D → Om → Out D := fnD 4 (g_is_row a)
def g_inverse (a : Ad) : Sl → Om → Out Res :=
 (sRet (e2 (eRel (seLc [2] (iR2 (aCons (eC (.int 1)) (aCons (eVar 0) aNil))) (bName 2) (tE (e2 (e2 (e2 (eVar 2) (eVar 1) dMul) (eVar 0) dMod) (eC (.int 1)) dEq)) (eVar 2))) (eC (.int 0)) dIx))
def m_inverse (a : Ad) : List D → Om → Out D := fnD 3 (g_inverse a)
def g_added (a : Ad) : Sl → Om → Out Res :=
 (sRet (eB (aCons (eRel (seLc [4, 5] (iZip (aCons (eVar 1) (aCons (eVar 2) aNil))) (bTup 2 (bCons (bName 4) (bCons (bName 5) bNil))) tYesD (e2 (e2 (eVar 4) (e2 (eVar 3) (eVar 5) dMul) dAdd) (eVar 0) dMod))) aNil) cTuple))
def m_added (a : Ad) : List D → Om → Out D := fnD 6 (g_added a)
def g_scaled (a : Ad) : Sl → Om → Out Res :=
 (sRet (eB (aCons (eRel (seLc [3] (iSeq (eVar 1)) (bName 3) tYesD (e2 (e2 (eVar 2) (eVar 3) dMul) (eVar 0) dMod))) aNil) cTuple))
def m_scaled (a : Ad) : List D → Om → Out D := fnD 4 (g_scaled a)
def g_met (a : Ad) : Sl → Om → Out Res :=
 (sRet (e2 (eB (aCons (eRel (seLc [3, 4] (iZip (aCons (eVar 1) (aCons (eVar 2) aNil))) (bTup 2 (bCons (bName 3) (bCons (bName 4) bNil))) tYesD (e2 (eVar 3) (eVar 4) dMul))) aNil) cSum) (eVar 0) dMod))
def m_met (a : Ad) : List D → Om → Out D := fnD 5 (g_met a)
def g_times (a : Ad) : Sl → Om → Out Res :=
 (sRet (eB (aCons (eRel (seLc [3] (iSeq (eVar 1)) (bName 3) tYesD (eCallN 3 (m_met a) [] (aCons (eVar 0) (aCons (eVar 3) (aCons (eVar 2) aNil)))))) aNil) cTuple))
def m_times (a : Ad) : List D → Om → Out D := fnD 4 (g_times a)
def g_behind (a : Ad) : Sl → Om → Out Res :=
 (sCons
 (sAsg 3 (seP (eB (aCons (e2 (eVar 2) (eC (.int 0)) dIx) aNil) cLen)))
 (sRet (eB (aCons (eRel (seLc [5] (iR1 (aCons (eVar 3) aNil)) (bName 5) tYesD (e2 (eB (aCons (eRel (seLc [4] (iR1 (aCons (eB (aCons (eVar 2) aNil) cLen) aNil)) (bName 4) tYesD (e2 (e2 (eVar 1) (eVar 4) dIx) (e2 (e2 (eVar 2) (eVar 4) dIx) (eVar 5) dIx) dMul))) aNil) cSum) (eVar 0) dMod))) aNil) cTuple)))
def m_behind (a : Ad) : List D → Om → Out D := fnD 6 (g_behind a)
def g_lead (a : Ad) : Sl → Om → Out Res :=
 (sCons
 (sFor (iEnum (aCons (eVar 0) aNil)) (bTup 2 (bCons (bName 1) (bCons (bName 2) bNil))) (sIf (tE (e2 (eVar 2) (eC (.int 0)) dNe)) (sRet (eVar 1)) sNil))
 (sRet (eC .non)))
def m_lead (a : Ad) : List D → Om → Out D := fnD 3 (g_lead a)
def g_reduced (a : Ad) : Sl → Om → Out Res :=
 (sCons
 (sAsg 2 (seP (eLst aNil)))
 (sCons
 (sFor (iSeq (eVar 1)) (bName 3) (sCons
 (sFor (iSeq (eVar 2)) (bName 4) (sAsg 3 (seP (eCallN 4 (m_added a) [] (aCons (eVar 0) (aCons (eVar 3) (aCons (eVar 4) (aCons (e1 (e2 (eVar 3) (eCallN 1 (m_lead a) [] (aCons (eVar 4) aNil)) dIx) dNeg) aNil))))))))
 (sCons
 (sAsg 5 (seP (eCallN 1 (m_lead a) [] (aCons (eVar 3) aNil))))
 (sIf (tE (e2 (eVar 5) (eC .non) dIsNot)) (sCons
 (sAsg 3 (seP (eCallN 3 (m_scaled a) [] (aCons (eVar 0) (aCons (eVar 3) (aCons (eCallN 2 (m_inverse a) [] (aCons (eVar 0) (aCons (e2 (eVar 3) (eVar 5) dIx) aNil))) aNil))))))
 (sAsg 2 (seP (e2 (eRel (seLc [4] (iSeq (eVar 2)) (bName 4) tYesD (eCallN 4 (m_added a) [] (aCons (eVar 0) (aCons (eVar 4) (aCons (eVar 3) (aCons (e1 (e2 (eVar 4) (eVar 5) dIx) dNeg) aNil))))))) (eLst (aCons (eVar 3) aNil)) dAdd)))) sNil))))
 (sRet (eRel (seSort true (aCons (eVar 2) aNil))))))
def m_reduced (a : Ad) : List D → Om → Out D := fnD 6 (g_reduced a)
def g_noughts (a : Ad) : Sl → Om → Out Res :=
 (sCons
 (sAsg 3 (seP (eCallN 2 (m_reduced a) [] (aCons (eVar 0) (aCons (eVar 1) aNil)))))
 (sCons
 (sAsg 4 (seLc [5] (iSeq (eVar 3)) (bName 5) tYesD (eCallN 1 (m_lead a) [] (aCons (eVar 5) aNil))))
 (sCons
 (sAsg 6 (seL aNil))
 (sCons
 (sFor (iR1 (aCons (eVar 2) aNil)) (bName 7) (sIf (tE (e2 (eVar 7) (eOwn 4) dNotIn)) (sCons
 (sAsg 8 (se2 (eLst (aCons (eC (.int 0)) aNil)) (eVar 2) oMul))
 (sCons
 (sSubO 8 (eC (.int 1)) (eVar 7))
 (sCons
 (fun r w => (sFor (iZip (aCons (eVar 3) (aCons (eVar 4) aNil))) (bTup 2 (bCons (bName 5) (bCons (bName 9) bNil))) (sSubO 8 (e2 (e1 (e2 (eVar 5) (eVar 7) dIx) dNeg) (eVar 0) dMod) (eVar 9))) (rel r 4) w)
 (sAppO 6 (eB (aCons (eOwn 8) aNil) cTuple))))) sNil))
 (fun r w => (sRet (eCallN 2 (m_reduced a) [] (aCons (eVar 0) (aCons (eVar 6) aNil)))) (rel r 6) w)))))
def m_noughts (a : Ad) : List D → Om → Out D := fnD 10 (g_noughts a)
def g_are_rows (a : Ad) : Sl → Om → Out Res :=
 (sCons
 (sIf (tOr (tNot (tTru (e1 (eVar 1) (cIsi "tuple")))) (tNot (tE (eChain (eVar 2) (eB (aCons (eVar 1) aNil) cLen) (eVar 3) dLe dLe)))) (sRet (eC (.bl false))) sNil)
 (sRet (eAll [5] (iSeq (eVar 1)) (bName 5) (eCallN 3 (m_is_row a) [] (aCons (eVar 0) (aCons (eVar 5) (aCons (eVar 4) aNil)))))))
def m_are_rows (a : Ad) : List D → Om → Out D := fnD 6 (g_are_rows a)
def g_need_machine (a : Ad) : Sl → Om → Out Res :=
 (sCons
 (sIf (tOr (tNot (tTru (e1 (eVar 0) (cIsi "tuple")))) (tE (e2 (eB (aCons (eVar 0) aNil) cLen) (eC (.int 4)) dNe))) (sRaiseF "BadMachine" ["part"] (aCons (eC (.str "machine")) aNil)) sNil)
 (sCons
 (sTup (eVar 0) (bTup 4 (bCons (bName 1) (bCons (bName 2) (bCons (bName 3) (bCons (bName 4) bNil))))))
 (sCons
 (sIf (tOr (tNot (tTru (eCallN 3 (m_is_number a) [] (aCons (eVar 1) (aCons (eC (.int 2)) (aCons (eC (.int 7)) aNil)))))) (tE (e2 (eVar 1) (eC (.tup [.int 2, .int 3, .int 5, .int 7])) dNotIn))) (sRaiseF "BadMachine" ["part"] (aCons (eC (.str "prime")) aNil)) sNil)
 (sCons
 (sIf (tOr (tNot (tTru (e1 (eVar 2) (cIsi "tuple")))) (tNot (tE (eChain (eC (.int 1)) (eB (aCons (eVar 2) aNil) cLen) (eC (.int 4)) dLe dLe)))) (sRaiseF "BadMachine" ["part"] (aCons (eC (.str "stir")) aNil)) sNil)
 (sCons
 (sIf (tOr (tNot (tTru (eCallN 5 (m_are_rows a) [] (aCons (eVar 1) (aCons (eVar 2) (aCons (eB (aCons (eVar 2) aNil) cLen) (aCons (eB (aCons (eVar 2) aNil) cLen) (aCons (eB (aCons (eVar 2) aNil) cLen) aNil)))))))) (tE (e2 (eB (aCons (eCallN 2 (m_reduced a) [] (aCons (eVar 1) (aCons (eVar 2) aNil))) aNil) cLen) (eB (aCons (eVar 2) aNil) cLen) dLt))) (sRaiseF "BadMachine" ["part"] (aCons (eC (.str "stir")) aNil)) sNil)
 (sCons
 (sIf (tNot (tTru (eCallN 5 (m_are_rows a) [] (aCons (eVar 1) (aCons (eVar 3) (aCons (eC (.int 1)) (aCons (eC (.int 4)) (aCons (eB (aCons (eVar 2) aNil) cLen) aNil)))))))) (sRaiseF "BadMachine" ["part"] (aCons (eC (.str "writes")) aNil)) sNil)
 (sIf (tNot (tTru (eCallN 5 (m_are_rows a) [] (aCons (eVar 1) (aCons (eVar 4) (aCons (eC (.int 1)) (aCons (eC (.int 4)) (aCons (eB (aCons (eVar 2) aNil) cLen) aNil)))))))) (sRaiseF "BadMachine" ["part"] (aCons (eC (.str "sights")) aNil)) sNil)))))))
def m_need_machine (a : Ad) : List D → Om → Out D := fnD 5 (g_need_machine a)
def g_stirred (a : Ad) : Sl → Om → Out Res :=
 (sRet (eCallN 3 (m_times a) [] (aCons (e2 (eVar 0) (eC (.int 0)) dIx) (aCons (e2 (eVar 0) (eC (.int 1)) dIx) (aCons (eVar 1) aNil)))))
def m_stirred (a : Ad) : List D → Om → Out D := fnD 2 (g_stirred a)
def g_unit (a : Ad) : Sl → Om → Out Res :=
 (sRet (eB (aCons (eRel (seLc [2] (iR1 (aCons (eVar 0) aNil)) (bName 2) tYesD (eB (aCons (e2 (eVar 2) (eVar 1) dEq) aNil) cInt))) aNil) cTuple))
def m_unit (a : Ad) : List D → Om → Out D := fnD 3 (g_unit a)
def g_grown (a : Ad) (cs : List D) (mv : List D → Om → Out D) : Sl → Om → Out Res :=
 (sCons
 (sAsg 3 (seP (eCallN 2 (m_reduced a) [] (aCons (eVar 0) (aCons (eVar 1) aNil)))))
 (sWhile 100000 (tTru (eC (.bl true))) (sCons
 (sAsg 4 (seP (eCallN 2 (m_reduced a) [] (aCons (eVar 0) (aCons (e2 (eVar 3) (eRel (seLc [5] (iSeq (eVar 3)) (bName 5) tYesD (eCallC 2 cN 1 cs mv (aCons (eVar 5) aNil)))) dAdd) aNil)))))
 (sCons
 (sIf (tE (e2 (eVar 4) (eVar 3) dEq)) (sRet (eVar 3)) sNil)
 (sAsg 3 (seP (eVar 4)))))))
def m_grown (a : Ad) (cs : List D) (mv : List D → Om → Out D) : List D → Om → Out D := fnD 6 (g_grown a cs mv)
def lx_reached_of_0 : Expr := (exAt [3] (stE (stAt (defBody s_reached_of) 0)))
def lam_reached_of_0 (a : Ad) : Sl → Om → Out D :=
 (eCallN 2 (m_stirred a) [] (aCons (eVar 1) (aCons (eVar 0) aNil)))
def g_reached_of (a : Ad) : Sl → Om → Out Res :=
 (sRet (eCallLam cN 3 [0] (fun cs => m_grown a cs (fnE 2 (lam_reached_of_0 a))) (aCons (e2 (eVar 0) (eC (.int 0)) dIx) (aCons (eB (aCons (e2 (eVar 0) (eC (.int 2)) dIx) aNil) cList) aNil))))
def m_reached_of (a : Ad) : List D → Om → Out D := fnD 1 (g_reached_of a)
def lx_forms_of_0 : Expr := (exAt [3] (stE (stAt (defBody s_forms_of) 0)))
def lam_forms_of_0 (a : Ad) : Sl → Om → Out D :=
 (eCallN 3 (m_behind a) [] (aCons (e2 (eVar 1) (eC (.int 0)) dIx) (aCons (eVar 0) (aCons (e2 (eVar 1) (eC (.int 1)) dIx) aNil))))
def g_forms_of (a : Ad) : Sl → Om → Out Res :=
 (sRet (eCallLam cN 3 [0] (fun cs => m_grown a cs (fnE 2 (lam_forms_of_0 a))) (aCons (e2 (eVar 0) (eC (.int 0)) dIx) (aCons (eB (aCons (e2 (eVar 0) (eC (.int 3)) dIx) aNil) cList) aNil))))
def m_forms_of (a : Ad) : List D → Om → Out D := fnD 1 (g_forms_of a)
def g_unseen_of (a : Ad) : Sl → Om → Out Res :=
 (sRet (eCallN 3 (m_noughts a) [] (aCons (e2 (eVar 0) (eC (.int 0)) dIx) (aCons (eCallN 1 (m_forms_of a) [] (aCons (eVar 0) aNil)) (aCons (eB (aCons (e2 (eVar 0) (eC (.int 1)) dIx) aNil) cLen) aNil)))))
def m_unseen_of (a : Ad) : List D → Om → Out D := fnD 1 (g_unseen_of a)
def g_both (a : Ad) : Sl → Om → Out Res :=
 (sCons
 (sAsg 4 (seP (e2 (eCallN 3 (m_noughts a) [] (aCons (eVar 0) (aCons (eVar 1) (aCons (eVar 3) aNil)))) (eCallN 3 (m_noughts a) [] (aCons (eVar 0) (aCons (eVar 2) (aCons (eVar 3) aNil)))) dAdd)))
 (sRet (eIf (tTru (eVar 4)) (eCallN 3 (m_noughts a) [] (aCons (eVar 0) (aCons (eVar 4) (aCons (eVar 3) aNil)))) (eRel (seLc [5] (iR1 (aCons (eVar 3) aNil)) (bName 5) tYesD (eCallN 2 (m_unit a) [] (aCons (eVar 3) (aCons (eVar 5) aNil))))))))
def m_both (a : Ad) : List D → Om → Out D := fnD 6 (g_both a)
def g_reached (a : Ad) : Sl → Om → Out Res :=
 (sCons
 (sExpr (eCallN 1 (m_need_machine a) [] (aCons (eVar 0) aNil)))
 (sRet (eB (aCons (eCallN 1 (m_reached_of a) [] (aCons (eVar 0) aNil)) aNil) cTuple)))
def m_reached (a : Ad) : List D → Om → Out D := fnD 1 (g_reached a)
def g_unseen (a : Ad) : Sl → Om → Out Res :=
 (sCons
 (sExpr (eCallN 1 (m_need_machine a) [] (aCons (eVar 0) aNil)))
 (sRet (eB (aCons (eCallN 1 (m_unseen_of a) [] (aCons (eVar 0) aNil)) aNil) cTuple)))
def m_unseen (a : Ad) : List D → Om → Out D := fnD 1 (g_unseen a)
def g_lost_of (a : Ad) : Sl → Om → Out Res :=
 (sRet (eCallN 4 (m_both a) [] (aCons (e2 (eVar 0) (eC (.int 0)) dIx) (aCons (eCallN 1 (m_reached_of a) [] (aCons (eVar 0) aNil)) (aCons (eCallN 1 (m_unseen_of a) [] (aCons (eVar 0) aNil)) (aCons (eB (aCons (e2 (eVar 0) (eC (.int 1)) dIx) aNil) cLen) aNil))))))
def m_lost_of (a : Ad) : List D → Om → Out D := fnD 1 (g_lost_of a)
def g_lost (a : Ad) : Sl → Om → Out Res :=
 (sCons
 (sExpr (eCallN 1 (m_need_machine a) [] (aCons (eVar 0) aNil)))
 (sRet (eB (aCons (eCallN 1 (m_lost_of a) [] (aCons (eVar 0) aNil)) aNil) cTuple)))
def m_lost (a : Ad) : List D → Om → Out D := fnD 1 (g_lost a)
def g_keeps_of (a : Ad) : Sl → Om → Out Res :=
 (sRet (e2 (eB (aCons (eCallN 1 (m_reached_of a) [] (aCons (eVar 0) aNil)) aNil) cLen) (eB (aCons (eCallN 1 (m_lost_of a) [] (aCons (eVar 0) aNil)) aNil) cLen) dSub))
def m_keeps_of (a : Ad) : List D → Om → Out D := fnD 1 (g_keeps_of a)
def g_keeps (a : Ad) : Sl → Om → Out Res :=
 (sCons
 (sExpr (eCallN 1 (m_need_machine a) [] (aCons (eVar 0) aNil)))
 (sRet (eCallN 1 (m_keeps_of a) [] (aCons (eVar 0) aNil))))
def m_keeps (a : Ad) : List D → Om → Out D := fnD 1 (g_keeps a)
def g_law_taken (a : Ad) : Sl → Om → Out Res :=
 (sCons
 (sIf (tE (e2 (eIxW (eVar 0) (eC (.int 3))) (eC (.int 0)) dGt)) (sCons
 (sAsg 2 (seP (e2 (eB (aCons (eIxW (eVar 0) (eC (.int 3))) aNil) cInt) (eVar 1) dMod)))
 (sCons
 (sSubW (e2 (eIxW (eVar 0) (eC (.int 3))) (eVar 1) dFdiv) (eVar 0) (eC (.int 3)))
 (sRet (eVar 2)))) sNil)
 (sCons
 (sSubW (e2 (eIxW (eVar 0) (eC (.int 1))) (eC (.int 1)) dAdd) (eVar 0) (eC (.int 1)))
 (sCons
 (sIf (tE (e2 (eIxW (eVar 0) (eC (.int 1))) (eB (aCons (eIxW (eVar 0) (eC (.int 0))) aNil) cLen) dGt)) (sCons
 (sSubW (e2 (eB (aCons (e2 (e2 (eIxW (eVar 0) (eC (.int 2))) (eC (.int 48271)) dMul) (eC (.int 11)) dAdd) aNil) cInt) (eC (.int 2147483647)) dMod) (eVar 0) (eC (.int 2)))
 (sRet (e2 (eB (aCons (e2 (eIxW (eVar 0) (eC (.int 2))) (eC (.int 7)) dFdiv) aNil) cInt) (eVar 1) dMod))) sNil)
 (sCons
 (sAsg 3 (seP (e2 (eIxW (eVar 0) (eC (.int 0))) (e2 (eIxW (eVar 0) (eC (.int 1))) (eC (.int 1)) dSub) dIx)))
 (sCons
 (sSubW (e2 (eB (aCons (e2 (e2 (e2 (eIxW (eVar 0) (eC (.int 2))) (eC (.int 48271)) dMul) (eVar 3) dAdd) (eC (.int 11)) dAdd) aNil) cInt) (eC (.int 2147483647)) dMod) (eVar 0) (eC (.int 2)))
 (sCons
 (sIf (tE (e2 (eVar 3) (e2 (eC (.int 10)) (eC (.int 18)) dPow) dGe)) (sSubW (e2 (eVar 3) (eVar 1) dFdiv) (eVar 0) (eC (.int 3))) sNil)
 (sRet (e2 (eB (aCons (eVar 3) aNil) cInt) (eVar 1) dMod))))))))
def m_law_taken (a : Ad) : List D → Om → Out D := fnD 4 (g_law_taken a)
def g_law_pick (a : Ad) : Sl → Om → Out Res :=
 (sRet (e2 (eVar 1) (eCallN 2 (m_law_taken a) [] (aCons (eVar 0) (aCons (eB (aCons (eVar 1) aNil) cLen) aNil))) dIx))
def m_law_pick (a : Ad) : List D → Om → Out D := fnD 2 (g_law_pick a)
def g_law_alike (a : Ad) (m : List D → Om → Out D) : Sl → Om → Out Res :=
 (sCons
 (sIf (tTru (e1 (eVar 1) (cIsi2 "tuple" "list"))) (sCons
 (sIf (tOr (tNot (tTru (e1 (eVar 0) (cIsi2 "tuple" "list")))) (tE (e2 (e1 (eVar 0) (cIsi "list")) (e1 (eVar 1) (cIsi "list")) dNe))) (sRet (eC (.bl false))) sNil)
 (sCons
 (sIf (tE (e2 (eB (aCons (eVar 0) aNil) cLen) (eB (aCons (eVar 1) aNil) cLen) dNe)) (sRet (eC (.bl false))) sNil)
 (sRet (e2 (eRel (seLc [2] (iR1 (aCons (eB (aCons (eVar 1) aNil) cLen) aNil)) (bName 2) (tNot (tTru (eCallN 2 m [] (aCons (e2 (eVar 0) (eVar 2) dIx) (aCons (e2 (eVar 1) (eVar 2) dIx) aNil))))) (eVar 2))) (eLst aNil) dEq)))) sNil)
 (sCons
 (sIf (tOr (tE (e2 (eVar 1) (eC .non) dIs)) (tTru (e1 (eVar 1) (cIsi "str")))) (sRet (eAnd (e2 (eVar 0) (eVar 1) dEq) (e2 (e1 (eVar 0) (cIsi "str")) (e1 (eVar 1) (cIsi "str")) dEq))) sNil)
 (sRet (eAnd (e1 (eVar 0) (cIsi "int")) (eAnd (e2 (e1 (eVar 0) (cIsi "bool")) (e1 (eVar 1) (cIsi "bool")) dEq) (e2 (eVar 0) (eVar 1) dEq))))))
def m_law_alike (a : Ad) : Nat → List D → Om → Out D
  | 0 => fnD 3 sNever
  | n + 1 => fnD 3 (g_law_alike a (m_law_alike a n))
def g_law_row (a : Ad) : Sl → Om → Out Res :=
 (sRet (eB (aCons (eRel (seLc [3] (iR1 (aCons (eVar 2) aNil)) (bName 3) tYesD (eIf (tE (e2 (eCallN 2 (m_law_taken a) [] (aCons (eVar 0) (aCons (eC (.int 3)) aNil))) (eC (.int 0)) dGt)) (eCallN 2 (m_law_taken a) [] (aCons (eVar 0) (aCons (eVar 1) aNil))) (eC (.int 0))))) aNil) cTuple))
def m_law_row (a : Ad) : List D → Om → Out D := fnD 4 (g_law_row a)
def g_law_stir (a : Ad) : Sl → Om → Out Res :=
 (sCons
 (sAsg 3 (seLc [5] (iR1 (aCons (eVar 2) aNil)) (bName 5) tYesD (eRel (seLc [4] (iR1 (aCons (eVar 2) aNil)) (bName 4) tYesD (eB (aCons (e2 (eVar 4) (eVar 5) dEq) aNil) cInt)))))
 (sCons
 (sFor (iR1 (aCons (eCallN 2 (m_law_taken a) [] (aCons (eVar 0) (aCons (eC (.int 5)) aNil))) aNil)) (bName 6) (sCons
 (sPar [4, 5, 7] (gConsA (seP (eCallN 2 (m_law_taken a) [] (aCons (eVar 0) (aCons (eVar 2) aNil)))) (gConsA (seP (eCallN 2 (m_law_taken a) [] (aCons (eVar 0) (aCons (eVar 2) aNil)))) (gConsA (seP (e2 (eC (.int 1)) (eCallN 2 (m_law_taken a) [] (aCons (eVar 0) (aCons (e2 (eVar 1) (eC (.int 1)) dSub) aNil))) dAdd)) gNilA))))
 (sCons
 (sIf (tE (e2 (eVar 4) (eVar 5) dNe)) (sSubO 3 (eRel (seLc [8, 9] (iZip (aCons (e2 (eOwn 3) (eVar 4) dIx) (aCons (e2 (eOwn 3) (eVar 5) dIx) aNil))) (bTup 2 (bCons (bName 8) (bCons (bName 9) bNil))) tYesD (e2 (e2 (eVar 8) (e2 (eVar 7) (eVar 9) dMul) dAdd) (eVar 1) dMod))) (eVar 4)) sNil)
 (sSwap 3 (aCons (e2 (eOwn 3) (eVar 5) dIx) (aCons (e2 (eOwn 3) (eVar 4) dIx) aNil)) (eVar 4) (eVar 5)))))
 (sRet (eB (aCons (eRel (seLc [10] (iSeq (eOwn 3)) (bName 10) tYesD (eB (aCons (eVar 10) aNil) cTuple))) aNil) cTuple))))
def m_law_stir (a : Ad) : List D → Om → Out D := fnD 11 (g_law_stir a)
def g_law_machine (a : Ad) : Sl → Om → Out Res :=
 (sCons
 (sPar [4, 5] (gConsA (seP (eCallN 2 (m_law_pick a) [] (aCons (eVar 0) (aCons (eVar 1) aNil)))) (gConsA (seP (e2 (eC (.int 1)) (eCallN 2 (m_law_taken a) [] (aCons (eVar 0) (aCons (eVar 2) aNil))) dAdd)) gNilA)))
 (sCons
 (sAsg 6 (seLc [7] (iR1 (aCons (e2 (eC (.int 1)) (eCallN 2 (m_law_taken a) [] (aCons (eVar 0) (aCons (eVar 3) aNil))) dAdd) aNil)) (bName 7) tYesD (eCallN 3 (m_law_row a) [] (aCons (eVar 0) (aCons (eVar 4) (aCons (eVar 5) aNil))))))
 (sCons
 (sAsg 8 (seLc [7] (iR1 (aCons (e2 (eC (.int 1)) (eCallN 2 (m_law_taken a) [] (aCons (eVar 0) (aCons (eVar 3) aNil))) dAdd) aNil)) (bName 7) tYesD (eCallN 3 (m_law_row a) [] (aCons (eVar 0) (aCons (eVar 4) (aCons (eVar 5) aNil))))))
 (sRet (eTup (aCons (eVar 4) (aCons (eCallN 3 (m_law_stir a) [] (aCons (eVar 0) (aCons (eVar 4) (aCons (eVar 5) aNil)))) (aCons (eB (aCons (eOwn 6) aNil) cTuple) (aCons (eB (aCons (eOwn 8) aNil) cTuple) aNil)))))))))
def m_law_machine (a : Ad) : List D → Om → Out D := fnD 9 (g_law_machine a)
def g_law_met (a : Ad) : Sl → Om → Out Res :=
 (sRet (e2 (eB (aCons (eRel (seLc [3, 4] (iZip (aCons (eVar 1) (aCons (eVar 2) aNil))) (bTup 2 (bCons (bName 3) (bCons (bName 4) bNil))) tYesD (e2 (eVar 3) (eVar 4) dMul))) aNil) cSum) (eVar 0) dMod))
def m_law_met (a : Ad) : List D → Om → Out D := fnD 5 (g_law_met a)
def g_law_added (a : Ad) : Sl → Om → Out Res :=
 (sRet (eB (aCons (eRel (seLc [4, 5] (iZip (aCons (eVar 1) (aCons (eVar 2) aNil))) (bTup 2 (bCons (bName 4) (bCons (bName 5) bNil))) tYesD (e2 (e2 (eVar 4) (e2 (eVar 3) (eVar 5) dMul) dAdd) (eVar 0) dMod))) aNil) cTuple))
def m_law_added (a : Ad) : List D → Om → Out D := fnD 6 (g_law_added a)
def g_law_stirred (a : Ad) : Sl → Om → Out Res :=
 (sRet (eB (aCons (eRel (seLc [2] (iSeq (e2 (eVar 0) (eC (.int 1)) dIx)) (bName 2) tYesD (eCallN 3 (m_law_met a) [] (aCons (e2 (eVar 0) (eC (.int 0)) dIx) (aCons (eVar 2) (aCons (eVar 1) aNil)))))) aNil) cTuple))
def m_law_stirred (a : Ad) : List D → Om → Out D := fnD 3 (g_law_stirred a)
def g_law_span (a : Ad) : Sl → Om → Out Res :=
 (sCons
 (sAsg 3 (seP (eLst (aCons (e2 (eTup (aCons (eC (.int 0)) aNil)) (eVar 2) dRep) aNil))))
 (sCons
 (sFor (iSeq (eVar 1)) (bName 4) (sIf (tE (e2 (eVar 4) (eVar 3) dNotIn)) (sCons
 (sAsg 5 (seP (eLst aNil)))
 (sCons
 (sFor (iR1 (aCons (eVar 0) aNil)) (bName 6) (sAsg 5 (seP (e2 (eVar 5) (eRel (seLc [7] (iSeq (eVar 3)) (bName 7) tYesD (eCallN 4 (m_law_added a) [] (aCons (eVar 0) (aCons (eVar 7) (aCons (eVar 4) (aCons (eVar 6) aNil))))))) dAdd))))
 (sAsg 3 (seP (eVar 5))))) sNil))
 (sRet (eRel (seSort false (aCons (eVar 3) aNil))))))
def m_law_span (a : Ad) : List D → Om → Out D := fnD 8 (g_law_span a)
def g_law_lead (a : Ad) : Sl → Om → Out Res :=
 (sRet (e2 (eRel (seLc [1, 2] (iEnum (aCons (eVar 0) aNil)) (bTup 2 (bCons (bName 1) (bCons (bName 2) bNil))) (tE (e2 (eVar 2) (eC (.int 0)) dNe)) (eVar 1))) (eC (.int 0)) dIx))
def m_law_lead (a : Ad) : List D → Om → Out D := fnD 3 (g_law_lead a)
def g_law_stairs (a : Ad) : Sl → Om → Out Res :=
 (sCons
 (sAsg 2 (seLc [3] (iSeq (eVar 1)) (bName 3) (tAnd (tE (e2 (eB (aCons (eVar 3) aNil) cMax) (eC (.int 0)) dGt)) (tE (e2 (e2 (eVar 3) (eCallN 1 (m_law_lead a) [] (aCons (eVar 3) aNil)) dIx) (eC (.int 1)) dEq))) (eVar 3)))
 (sCons
 (sAsg 4 (seSetSort (aCons (eRel (seLc [3] (iSeq (eOwn 2)) (bName 3) tYesD (eCallN 1 (m_law_lead a) [] (aCons (eVar 3) aNil)))) aNil)))
 (sCons
 (sAsg 5 (seP (eLst aNil)))
 (sCons
 (fun r w => (sFor (iSeq (eVar 4)) (bName 6) (sCons
 (sAsg 7 (seLc [3] (iSeq (eOwn 2)) (bName 3) (tE (e2 (eCallN 1 (m_law_lead a) [] (aCons (eVar 3) aNil)) (eVar 6) dEq)) (eVar 3)))
 (sAsg 5 (seP (e2 (eVar 5) (eRel (seLc [3] (iSeq (eOwn 7)) (bName 3) (tE (e2 (eRel (seLc [8] (iSeq (eOwn 4)) (bName 8) (tAnd (tE (e2 (eVar 8) (eVar 6) dNe)) (tE (e2 (e2 (eVar 3) (eVar 8) dIx) (eC (.int 0)) dNe))) (eC (.int 1)))) (eLst aNil) dEq)) (eVar 3))) dAdd))))) (rel r 4) w)
 (sRet (eB (aCons (eVar 5) aNil) cTuple))))))
def m_law_stairs (a : Ad) : List D → Om → Out D := fnD 9 (g_law_stairs a)
def g_law_rows (a : Ad) : Sl → Om → Out Res :=
 (sCons
 (sAsg 2 (seP (eLst (aCons (eTup aNil) aNil))))
 (sCons
 (sFor (iR1 (aCons (eVar 1) aNil)) (bName 3) (sCons
 (sAsg 4 (seP (eLst aNil)))
 (sCons
 (sFor (iSeq (eVar 2)) (bName 5) (sAsg 4 (seP (e2 (eVar 4) (eRel (seLc [6] (iR1 (aCons (eVar 0) aNil)) (bName 6) tYesD (e2 (eVar 5) (eTup (aCons (eVar 6) aNil)) dAdd))) dAdd))))
 (sAsg 2 (seP (eVar 4))))))
 (sRet (eVar 2))))
def m_law_rows (a : Ad) : List D → Om → Out D := fnD 7 (g_law_rows a)
def g_law_reached (a : Ad) : Sl → Om → Out Res :=
 (sCons
 (sPar [1, 2] (gConsA (seL aNil) (gConsA (seP (eLst (aCons (e2 (eTup (aCons (eC (.int 0)) aNil)) (eB (aCons (e2 (eVar 0) (eC (.int 1)) dIx) aNil) cLen) dRep) aNil))) gNilA)))
 (sCons
 (sFor (iSeq (e2 (eVar 0) (eC (.int 2)) dIx)) (bName 3) (sCons
 (sAsg 4 (seP (eVar 3)))
 (sFor (iR1 (aCons (eC (.int 4)) aNil)) (bName 5) (sCons
 (sAppO 1 (eVar 4))
 (sAsg 4 (seP (eCallN 2 (m_law_stirred a) [] (aCons (eVar 0) (aCons (eVar 4) aNil)))))))))
 (fun r w => (sRet (eCallN 3 (m_law_span a) [] (aCons (e2 (eVar 0) (eC (.int 0)) dIx) (aCons (eVar 1) (aCons (eB (aCons (e2 (eVar 0) (eC (.int 1)) dIx) aNil) cLen) aNil))))) (rel r 1) w)))
def m_law_reached (a : Ad) : List D → Om → Out D := fnD 6 (g_law_reached a)
def g_law_unseen (a : Ad) : Sl → Om → Out Res :=
 (sCons
 (sAsg 1 (seL aNil))
 (sCons
 (sFor (iSeq (eCallN 2 (m_law_rows a) [] (aCons (e2 (eVar 0) (eC (.int 0)) dIx) (aCons (eB (aCons (e2 (eVar 0) (eC (.int 1)) dIx) aNil) cLen) aNil)))) (bName 2) (sCons
 (sPar [3, 4] (gConsA (seP (eLst aNil)) (gConsA (seP (eVar 2)) gNilA)))
 (sCons
 (sFor (iR1 (aCons (eC (.int 4)) aNil)) (bName 5) (sCons
 (sAsg 3 (seP (e2 (eVar 3) (eRel (seLc [6] (iSeq (e2 (eVar 0) (eC (.int 3)) dIx)) (bName 6) tYesD (eCallN 3 (m_law_met a) [] (aCons (e2 (eVar 0) (eC (.int 0)) dIx) (aCons (eVar 6) (aCons (eVar 4) aNil)))))) dAdd)))
 (sAsg 4 (seP (eCallN 2 (m_law_stirred a) [] (aCons (eVar 0) (aCons (eVar 4) aNil)))))))
 (sIf (tE (e2 (eB (aCons (eVar 3) aNil) cMax) (eC (.int 0)) dEq)) (sAppO 1 (eVar 2)) sNil))))
 (sRet (eOwn 1))))
def m_law_unseen (a : Ad) : List D → Om → Out D := fnD 7 (g_law_unseen a)
def g_law_size (a : Ad) : Sl → Om → Out Res :=
 (sCons
 (sAsg 2 (seP (eC (.int 0))))
 (sCons
 (sFor (iR1 (aCons (eC (.int 20)) aNil)) (bName 3) (sIf (tE (e2 (eVar 1) (eC (.int 1)) dGt)) (sPar [1, 2] (gConsA (seP (e2 (eVar 1) (eVar 0) dFdiv)) (gConsA (seP (e2 (eVar 2) (eC (.int 1)) dAdd)) gNilA))) sNil))
 (sRet (eVar 2))))
def m_law_size (a : Ad) : List D → Om → Out D := fnD 4 (g_law_size a)
def g_law_deed (a : Ad) : Sl → Om → Out Res :=
 (sCons
 (sPar [4, 5, 6] (gConsA (seP (e2 (eVar 0) (eC (.int 0)) dIx)) (gConsA (seP (e2 (eVar 3) (eC (.int 0)) dIx)) (gConsA (seP (e2 (eVar 3) (e1 (eC (.int 1)) dNeg) dIx)) gNilA))))
 (sCons
 (sIf (tE (e2 (eVar 5) (eLst (aCons (eC (.str "get")) (aCons (eC (.str "plus")) (aCons (eC (.str "minus")) aNil)))) dIn)) (sCons
 (sAsg 7 (seP (eCallN 3 (m_law_met a) [] (aCons (eVar 4) (aCons (e2 (e2 (eVar 0) (eC (.int 3)) dIx) (eVar 6) dIx) (aCons (eVar 1) aNil))))))
 (sAsg 2 (seP (e2 (eDict ["get", "plus", "minus"] (aCons (eVar 7) (aCons (e2 (eVar 2) (eVar 7) dAdd) (aCons (e2 (eVar 2) (eVar 7) dSub) aNil))) (eVar 5)) (eVar 4) dMod)))) sNil)
 (sCons
 (sIf (tE (e2 (eVar 5) (eLst (aCons (eC (.str "add")) (aCons (eC (.str "take")) aNil))) dIn)) (sAsg 1 (seP (eCallN 4 (m_law_added a) [] (aCons (eVar 4) (aCons (eVar 1) (aCons (e2 (e2 (eVar 0) (eC (.int 2)) dIx) (eVar 6) dIx) (aCons (eIf (tE (e2 (eVar 5) (eC (.str "add")) dEq)) (eVar 2) (e2 (eC (.int 0)) (eVar 2) dSub)) aNil))))))) sNil)
 (sCons
 (sIf (tE (e2 (eVar 5) (eC (.str "put")) dEq)) (sAsg 2 (seP (eVar 6))) sNil)
 (sRet (eTup (aCons (eCallN 2 (m_law_stirred a) [] (aCons (eVar 0) (aCons (eVar 1) aNil))) (aCons (eVar 2) aNil))))))))
def m_law_deed (a : Ad) : List D → Om → Out D := fnD 8 (g_law_deed a)
def g_law (a : Ad) : Sl → Om → Out Res :=
 (sCons
 (sAsg 1 (seP (seW (aCons (eVar 0) (aCons (eC (.int 0)) (aCons (eC (.int 7603)) (aCons (eC (.int 0)) aNil)))))))
 (sCons
 (sAsg 2 (seP (eCallN 4 (m_law_machine a) [] (aCons (eVar 1) (aCons (eLst (aCons (eC (.int 2)) (aCons (eC (.int 2)) (aCons (eC (.int 3)) (aCons (eC (.int 5)) aNil))))) (aCons (eC (.int 3)) (aCons (eC (.int 2)) aNil)))))))
 (sCons
 (sAsg 3 (seP (e2 (eVar 2) (eC (.int 0)) dIx)))
 (sCons
 (sPar [4, 5] (gConsA (seP (eCallN 1 (m_law_reached a) [] (aCons (eVar 2) aNil))) (gConsA (seP (eCallN 1 (m_law_unseen a) [] (aCons (eVar 2) aNil))) gNilA)))
 (sCons
 (sAsg 6 (seLc [7] (iSeq (eVar 4)) (bName 7) (tE (e2 (eVar 7) (eVar 5) dIn)) (eVar 7)))
 (sCons
 (sAsg 8 (seP (eLst (aCons (eCallN 1 (m_reached a) [] (aCons (eVar 2) aNil)) (aCons (eCallN 1 (m_unseen a) [] (aCons (eVar 2) aNil)) (aCons (eCallN 1 (m_lost a) [] (aCons (eVar 2) aNil)) aNil))))))
 (sCons
 (fun r w => (sIf (tNot (tTru (eCallN 2 (m_law_alike a 4) [] (aCons (eVar 8) (aCons (eLst (aCons (eCallN 2 (m_law_stairs a) [] (aCons (eVar 3) (aCons (eVar 4) aNil))) (aCons (eCallN 2 (m_law_stairs a) [] (aCons (eVar 3) (aCons (eVar 5) aNil))) (aCons (eCallN 2 (m_law_stairs a) [] (aCons (eVar 3) (aCons (eVar 6) aNil))) aNil)))) aNil))))) (sRet (eC (.bl false))) sNil) (rel r 6) w)
 (sCons
 (sIf (tNot (tTru (eCallN 2 (m_law_alike a 4) [] (aCons (eCallN 1 (m_keeps a) [] (aCons (eVar 2) aNil)) (aCons (e2 (eCallN 2 (m_law_size a) [] (aCons (eVar 3) (aCons (eB (aCons (eVar 4) aNil) cLen) aNil))) (eCallN 2 (m_law_size a) [] (aCons (eVar 3) (aCons (eB (aCons (eOwn 6) aNil) cLen) aNil))) dSub) aNil))))) (sRet (eC (.bl false))) sNil)
 (sCons
 (sFor (iR1 (aCons (eC (.int 6)) aNil)) (bName 9) (sCons
 (sAsg 10 (seP (eCallN 2 (m_law_pick a) [] (aCons (eVar 1) (aCons (eVar 4) aNil)))))
 (sCons
 (sFor (iR1 (aCons (eC (.int 4)) aNil)) (bName 11) (sCons
 (sAsg 12 (seP (eCallN 2 (m_law_taken a) [] (aCons (eVar 1) (aCons (eVar 3) aNil)))))
 (sAsg 10 (seP (e2 (eCallN 4 (m_law_deed a) [] (aCons (eVar 2) (aCons (eVar 10) (aCons (eVar 12) (aCons (eTup (aCons (eC (.str "add")) (aCons (eCallN 2 (m_law_taken a) [] (aCons (eVar 1) (aCons (eB (aCons (e2 (eVar 2) (eC (.int 2)) dIx) aNil) cLen) aNil))) aNil))) aNil))))) (eC (.int 0)) dIx)))))
 (sIf (tE (e2 (eVar 10) (eVar 4) dNotIn)) (sRet (eC (.bl false))) sNil))))
 (sCons
 (sTryM [(some 13, exm_BadMachine, (sRet (eC (.bl true))))] (sExpr (eCallN 1 (m_keeps a) [] (aCons (eCallN 2 (m_law_pick a) [] (aCons (eVar 1) (aCons (eLst (aCons (eC .non) (aCons (eCut (eVar 2) oNone (oSome (eC (.int 3)))) (aCons (eTup (aCons (eVar 3) (aCons (e2 (eVar 2) (eC (.int 1)) dIx) (aCons (e2 (eVar 2) (eC (.int 2)) dIx) (aCons (eTup aNil) aNil))))) (aCons (eLst (aCons (eVar 3) aNil)) aNil))))) aNil))) aNil))))
 (sRet (eC (.bl false)))))))))))))
def m_law (a : Ad) : List D → Om → Out D := fnD 14 (g_law a)
theorem exm_ok_BadMachine {K : PySem.W.Frag} {mg : Str → Option Value} {a : Ad} (t : Txt K mg a) : ∀ (cn : Str) (C : Addr) (b : Bool), mg cn = some (.ref C) → exm_BadMachine cn = some b → PySem.W.exmOne K (.ref C) (.ref a.k_BadMachine) = some b := fun cn C b h e => by
  unfold exm_BadMachine at e
  split at e
  · rename_i h1
    subst h1
    cases e
    have q := h.symm.trans t.mg_BadMachine
    cases q
    exact t.xm_BadMachine_BadMachine
  cases e
theorem fi_BadMachine {P : Program} {wd : World} {K : PySem.W.Frag} {mg : Str → Option Value} {base : Heap} {a : Ad} (t : Txt K mg a) : FnI P wd K mg base 1 a.k_BadMachine a.f_BadMachinezz_initzz ["part"] := fnI1 t.ox_BadMachine t.d_BadMachinezz_initzz sc_BadMachinezz_initzz (fun A outer s H E => pss_one (ps_ost (pv 0) (pv 1))) (fun _ _ _ _ _ _ us hl => match us, hl with | [_, _], _ => rfl)
theorem bd_is_number {P : Program} {wd : World} {K : PySem.W.Frag} {mg : Str → Option Value} {base : Heap} {T : Tbl} {a : Ad} (t : Txt K mg a) : BodyD P wd K mg base T "is_number" s_is_number a.f_is_number a.c_is_number N_is_number 0 (g_is_number a) := by
 intro A outer s H E hr tk
 exact (dss_one (ds_ret (DE.be (dx_and (dx_isi "int" rfl t.z_isinstance rfl t.z_int (by decide +kernel) (DE.be (dx_var 0))) (dx_and (dx_not (dx_isi "bool" rfl t.z_isinstance rfl t.z_bool (by decide +kernel) (DE.be (dx_var 0)))) (dx_one (dx_chain (cd_le) (cd_le) (DE.be (dx_var 1)) (DE.be (dx_var 0)) (DE.be (dx_var 2)))))))))
theorem fn_is_number {P : Program} {wd : World} {K : PySem.W.Frag} {mg : Str → Option Value} {base : Heap} {T : Tbl} {a : Ad} (t : Txt K mg a) : FnN P wd K mg base T 1 a.f_is_number 3 [] (m_is_number a) := fnAt0 t.d_is_number sc_is_number (bd_is_number t ) (fun _ _ _ _ _ _ us hl => match us, hl with | [_, _, _], _ => rfl)
theorem bd_is_row {P : Program} {wd : World} {K : PySem.W.Frag} {mg : Str → Option Value} {base : Heap} {T : Tbl} {a : Ad} (t : Txt K mg a) (ti : Tin base mg T a) (F_is_number : FnN P wd K mg base T 1 a.f_is_number 3 [] (m_is_number a)) : BodyD P wd K mg base T "is_row" s_is_row a.f_is_row (.ref a.cc_is_row) N_is_row 4 (g_is_row a) := by
 intro A outer s H E hr tk
 exact (dss_one (ds_ret (DE.be (dx_and (dx_isi "tuple" rfl t.z_isinstance rfl t.z_tuple (by decide +kernel) (DE.be (dx_var 1))) (dx_and (dx_cmp (cd_eq (un0 hr)) (DE.be (dx_len rfl t.z_len (ba_cons (DE.be (dx_var 1)) ba_nil))) (DE.be (dx_var 2))) (dx_one (dx_all (k := 1) (own := [("one", 3)]) (hr.mono (by decide)) rfl t.z_all (ti.tb_is_row) rfl ti.in_is_row ti.no_is_row sc_is_row.nd (bi_seq (DE.be (dx_var 1))) (blk_ok N_is_row ["prime"] (by decide +kernel) (.cons (by first | exact .inl rfl | exact .inr rfl) .nil)) (by decide +kernel) (by decide) (fun q => (dg_name 3 sc_is_row.nd)) (fun q => (dx_call F_is_number (q.room.mono (by decide)) rfl t.m_is_number t.d_is_number.kp takesN (da_cons (dx_var 3) (da_cons dx_int (da_cons (dx_sub (DE.be (dx_var 0)) (DE.be dx_int)) da_nil))))))))))))
theorem fn_is_row {P : Program} {wd : World} {K : PySem.W.Frag} {mg : Str → Option Value} {base : Heap} {T : Tbl} {a : Ad} (t : Txt K mg a) (ti : Tin base mg T a) (F_is_number : FnN P wd K mg base T 1 a.f_is_number 3 [] (m_is_number a)) : FnN P wd K mg base T 5 a.f_is_row 3 [] (m_is_row a) := fnAt0 t.d_is_row sc_is_row (bd_is_row t ti F_is_number) (fun _ _ _ _ _ _ us hl => match us, hl with | [_, _, _], _ => rfl)
theorem bd_inverse {P : Program} {wd : World} {K : PySem.W.Frag} {mg : Str → Option Value} {base : Heap} {T : Tbl} {a : Ad} (t : Txt K mg a) : BodyD P wd K mg base T "inverse" s_inverse a.f_inverse a.c_inverse N_inverse 0 (g_inverse a) := by
 intro A outer s H E hr tk
 exact (dss_one (ds_ret (DE.be (dx_ix (DE.be (dx_rel (se_lc (own := [("one", 2)]) rfl sc_inverse.nd (DI.bi (di_rng2 rfl t.z_range (da_cons dx_int (da_cons (dx_var 0) da_nil)))) (blk_ok N_inverse ["number", "prime"] (by decide +kernel) (.cons (by first | exact .inl rfl | exact .inr rfl) (.cons (by first | exact .inl rfl | exact .inr rfl) .nil))) (fun _ => (dg_name 2 sc_inverse.nd)) (fun _ => (dts_one (dt_cmp (cd_eq (un0 hr)) (DE.be (dx_mod (DE.be (dx_mul (DE.be (dx_var 2)) (DE.be (dx_var 1)))) (DE.be (dx_var 0)))) (DE.be dx_int)))) (fun _ => (dx_var 2)) (by decide)))) (DE.be dx_int)))))
theorem fn_inverse {P : Program} {wd : World} {K : PySem.W.Frag} {mg : Str → Option Value} {base : Heap} {T : Tbl} {a : Ad} (t : Txt K mg a) : FnN P wd K mg base T 1 a.f_inverse 2 [] (m_inverse a) := fnAt0 t.d_inverse sc_inverse (bd_inverse t ) (fun _ _ _ _ _ _ us hl => match us, hl with | [_, _], _ => rfl)
theorem bd_added {P : Program} {wd : World} {K : PySem.W.Frag} {mg : Str → Option Value} {base : Heap} {T : Tbl} {a : Ad} (t : Txt K mg a) : BodyD P wd K mg base T "added" s_added a.f_added a.c_added N_added 0 (g_added a) := by
 intro A outer s H E hr tk
 exact (dss_one (ds_ret (DE.be (dx_tupleOf rfl t.z_tuple (ba_cons (DE.be (dx_rel (se_lc (own := [("left", 4), ("right", 5)]) rfl sc_added.nd (bi_zip rfl t.z_zip (ba_cons (DE.be (dx_var 1)) (ba_cons (DE.be (dx_var 2)) ba_nil))) (blk_ok N_added ["factor", "prime"] (by decide +kernel) (.cons (by first | exact .inl rfl | exact .inr rfl) (.cons (by first | exact .inl rfl | exact .inr rfl) .nil))) (fun _ => (dg_tup rfl (dgs_cons (dg_name 4 sc_added.nd) (dgs_cons (dg_name 5 sc_added.nd) dgs_nil)))) (fun _ => dts_nil) (fun _ => (dx_mod (DE.be (dx_add (DE.be (dx_var 4)) (DE.be (dx_mul (DE.be (dx_var 3)) (DE.be (dx_var 5)))))) (DE.be (dx_var 0)))) (by decide)))) ba_nil)))))
theorem fn_added {P : Program} {wd : World} {K : PySem.W.Frag} {mg : Str → Option Value} {base : Heap} {T : Tbl} {a : Ad} (t : Txt K mg a) : FnN P wd K mg base T 1 a.f_added 4 [] (m_added a) := fnAt1 t.d_added sc_added (bd_added t ) 4 1 [] (by decide) rfl (fun _ _ => .nil) (fun _ _ _ _ _ _ _ us its hu hi => match us, hu, its, hi with | [_, _, _, _], _, [_], _ => ⟨_, rfl, rfl⟩)
theorem fn_added_1 {P : Program} {wd : World} {K : PySem.W.Frag} {mg : Str → Option Value} {base : Heap} {T : Tbl} {a : Ad} (t : Txt K mg a) : FnN P wd K mg base T 1 a.f_added 4 [.int 1] (m_added a) := fnAt1 t.d_added sc_added (bd_added t ) 3 0 [.int 1] (by decide) rfl (fun _ _ => (.cons (.int _) .nil)) (fun _ _ _ _ _ _ _ us its hu hi => match us, hu, its, hi with | [_, _, _], _, [_], _ => ⟨_, rfl, rfl⟩)
theorem bd_scaled {P : Program} {wd : World} {K : PySem.W.Frag} {mg : Str → Option Value} {base : Heap} {T : Tbl} {a : Ad} (t : Txt K mg a) : BodyD P wd K mg base T "scaled" s_scaled a.f_scaled a.c_scaled N_scaled 0 (g_scaled a) := by
 intro A outer s H E hr tk
 exact (dss_one (ds_ret (DE.be (dx_tupleOf rfl t.z_tuple (ba_cons (DE.be (dx_rel (se_lc (own := [("number", 3)]) rfl sc_scaled.nd (bi_seq (DE.be (dx_var 1))) (blk_ok N_scaled ["factor", "prime"] (by decide +kernel) (.cons (by first | exact .inl rfl | exact .inr rfl) (.cons (by first | exact .inl rfl | exact .inr rfl) .nil))) (fun _ => (dg_name 3 sc_scaled.nd)) (fun _ => dts_nil) (fun _ => (dx_mod (DE.be (dx_mul (DE.be (dx_var 2)) (DE.be (dx_var 3)))) (DE.be (dx_var 0)))) (by decide)))) ba_nil)))))
theorem fn_scaled {P : Program} {wd : World} {K : PySem.W.Frag} {mg : Str → Option Value} {base : Heap} {T : Tbl} {a : Ad} (t : Txt K mg a) : FnN P wd K mg base T 1 a.f_scaled 3 [] (m_scaled a) := fnAt0 t.d_scaled sc_scaled (bd_scaled t ) (fun _ _ _ _ _ _ us hl => match us, hl with | [_, _, _], _ => rfl)
theorem bd_met {P : Program} {wd : World} {K : PySem.W.Frag} {mg : Str → Option Value} {base : Heap} {T : Tbl} {a : Ad} (t : Txt K mg a) : BodyD P wd K mg base T "met" s_met a.f_met a.c_met N_met 0 (g_met a) := by
 intro A outer s H E hr tk
 exact (dss_one (ds_ret (DE.be (dx_mod (DE.be (dx_sum rfl rfl t.z_sum (ba_cons (DE.be (dx_rel (se_lc (own := [("left", 3), ("right", 4)]) rfl sc_met.nd (bi_zip rfl t.z_zip (ba_cons (DE.be (dx_var 1)) (ba_cons (DE.be (dx_var 2)) ba_nil))) (blk_ok N_met [] (by decide +kernel) .nil) (fun _ => (dg_tup rfl (dgs_cons (dg_name 3 sc_met.nd) (dgs_cons (dg_name 4 sc_met.nd) dgs_nil)))) (fun _ => dts_nil) (fun _ => (dx_mul (DE.be (dx_var 3)) (DE.be (dx_var 4)))) (by decide)))) ba_nil))) (DE.be (dx_var 0))))))
theorem fn_met {P : Program} {wd : World} {K : PySem.W.Frag} {mg : Str → Option Value} {base : Heap} {T : Tbl} {a : Ad} (t : Txt K mg a) : FnN P wd K mg base T 1 a.f_met 3 [] (m_met a) := fnAt0 t.d_met sc_met (bd_met t ) (fun _ _ _ _ _ _ us hl => match us, hl with | [_, _, _], _ => rfl)
theorem bd_times {P : Program} {wd : World} {K : PySem.W.Frag} {mg : Str → Option Value} {base : Heap} {T : Tbl} {a : Ad} (t : Txt K mg a) (F_met : FnN P wd K mg base T 1 a.f_met 3 [] (m_met a)) : BodyD P wd K mg base T "times" s_times a.f_times a.c_times N_times 1 (g_times a) := by
 intro A outer s H E hr tk
 exact (dss_one (ds_ret (DE.be (dx_tupleOf rfl t.z_tuple (ba_cons (DE.be (dx_rel (se_lc (own := [("row", 3)]) rfl sc_times.nd (bi_seq (DE.be (dx_var 1))) (blk_ok N_times ["prime", "column"] (by decide +kernel) (.cons (by first | exact .inl rfl | exact .inr rfl) (.cons (by first | exact .inl rfl | exact .inr rfl) .nil))) (fun _ => (dg_name 3 sc_times.nd)) (fun _ => dts_nil) (fun _ => (dx_call F_met (hr.mono (by decide)) rfl t.m_met t.d_met.kp takesN (da_cons (dx_var 0) (da_cons (dx_var 3) (da_cons (dx_var 2) da_nil))))) (by decide)))) ba_nil)))))
theorem fn_times {P : Program} {wd : World} {K : PySem.W.Frag} {mg : Str → Option Value} {base : Heap} {T : Tbl} {a : Ad} (t : Txt K mg a) (F_met : FnN P wd K mg base T 1 a.f_met 3 [] (m_met a)) : FnN P wd K mg base T 2 a.f_times 3 [] (m_times a) := fnAt0 t.d_times sc_times (bd_times t F_met) (fun _ _ _ _ _ _ us hl => match us, hl with | [_, _, _], _ => rfl)
theorem bd_behind {P : Program} {wd : World} {K : PySem.W.Frag} {mg : Str → Option Value} {base : Heap} {T : Tbl} {a : Ad} (t : Txt K mg a) : BodyD P wd K mg base T "behind" s_behind a.f_behind a.c_behind N_behind 0 (g_behind a) := by
 intro A outer s H E hr tk
 exact (dss_cons
 (ds_set (i := 3) (se_p (dx_len rfl t.z_len (ba_cons (DE.be (dx_ix (DE.be (dx_var 2)) (DE.be dx_int))) ba_nil))) sc_behind.nd)
 (dss_one (ds_ret (DE.be (dx_tupleOf rfl t.z_tuple (ba_cons (DE.be (dx_rel (se_lc (own := [("place", 5)]) rfl sc_behind.nd (DI.bi (di_rng1 rfl t.z_range (da_cons (dx_var 3) da_nil))) (blk_ok N_behind ["table", "row", "prime"] (by decide +kernel) (.cons (by first | exact .inl rfl | exact .inr rfl) (.cons (by first | exact .inl rfl | exact .inr rfl) (.cons (by first | exact .inl rfl | exact .inr rfl) .nil)))) (fun _ => (dg_name 5 sc_behind.nd)) (fun _ => dts_nil) (fun _ => (dx_mod (DE.be (dx_sum rfl rfl t.z_sum (ba_cons (DE.be (dx_rel (se_lc (own := [("at", 4)]) rfl sc_behind.nd (DI.bi (di_rng1 rfl t.z_range (da_cons (dx_len rfl t.z_len (ba_cons (DE.be (dx_var 2)) ba_nil)) da_nil))) (blk_ok N_behind ["row", "table", "place"] (by decide +kernel) (.cons (by first | exact .inl rfl | exact .inr rfl) (.cons (by first | exact .inl rfl | exact .inr rfl) (.cons (by first | exact .inl rfl | exact .inr rfl) .nil)))) (fun _ => (dg_name 4 sc_behind.nd)) (fun _ => dts_nil) (fun _ => (dx_mul (DE.be (dx_ix (DE.be (dx_var 1)) (DE.be (dx_var 4)))) (DE.be (dx_ix (DE.be (dx_ix (DE.be (dx_var 2)) (DE.be (dx_var 4)))) (DE.be (dx_var 5)))))) (by decide)))) ba_nil))) (DE.be (dx_var 0)))) (by decide)))) ba_nil))))))
theorem fn_behind {P : Program} {wd : World} {K : PySem.W.Frag} {mg : Str → Option Value} {base : Heap} {T : Tbl} {a : Ad} (t : Txt K mg a) : FnN P wd K mg base T 1 a.f_behind 3 [] (m_behind a) := fnAt0 t.d_behind sc_behind (bd_behind t ) (fun _ _ _ _ _ _ us hl => match us, hl with | [_, _, _], _ => rfl)
theorem bd_lead {P : Program} {wd : World} {K : PySem.W.Frag} {mg : Str → Option Value} {base : Heap} {T : Tbl} {a : Ad} (t : Txt K mg a) : BodyD P wd K mg base T "lead" s_lead a.f_lead a.c_lead N_lead 0 (g_lead a) := by
 intro A outer s H E hr tk
 exact (dss_cons
 (ds_for (L2.passes_of rfl) rfl (di_enum rfl t.z_enumerate (da_cons (dx_var 0) da_nil)) (dg_tup rfl (dgs_cons (dg_name 1 sc_lead.nd) (dgs_cons (dg_name 2 sc_lead.nd) dgs_nil))) (dss_one (ds_if (dt_cmp (cd_ne (un0 hr)) (DE.be (dx_var 2)) (DE.be dx_int)) (dss_one (ds_ret (DE.be (dx_var 1)))) dss_nil)))
 (dss_one (ds_ret (DE.be dx_non))))
theorem fn_lead {P : Program} {wd : World} {K : PySem.W.Frag} {mg : Str → Option Value} {base : Heap} {T : Tbl} {a : Ad} (t : Txt K mg a) : FnN P wd K mg base T 1 a.f_lead 1 [] (m_lead a) := fnAt0 t.d_lead sc_lead (bd_lead t ) (fun _ _ _ _ _ _ us hl => match us, hl with | [_], _ => rfl)
theorem bd_reduced {P : Program} {wd : World} {K : PySem.W.Frag} {mg : Str → Option Value} {base : Heap} {T : Tbl} {a : Ad} (t : Txt K mg a) (F_added : FnN P wd K mg base T 1 a.f_added 4 [] (m_added a)) (F_inverse : FnN P wd K mg base T 1 a.f_inverse 2 [] (m_inverse a)) (F_scaled : FnN P wd K mg base T 1 a.f_scaled 3 [] (m_scaled a)) (F_lead : FnN P wd K mg base T 1 a.f_lead 1 [] (m_lead a)) : BodyD P wd K mg base T "reduced" s_reduced a.f_reduced a.c_reduced N_reduced 1 (g_reduced a) := by
 intro A outer s H E hr tk
 exact (dss_cons
 (ds_set (i := 2) (se_p (dx_lst da_nil)) sc_reduced.nd)
 (dss_cons
 (ds_for (L2.passes_of rfl) rfl (di_seq (dx_var 1)) (dg_name 3 sc_reduced.nd) (dss_cons
 (ds_for (L2.passes_of rfl) rfl (di_seq (dx_var 2)) (dg_name 4 sc_reduced.nd) (dss_one (ds_set (i := 3) (se_p (dx_call F_added (hr.mono (by decide)) rfl t.m_added t.d_added.kp tk (da_cons (dx_var 0) (da_cons (dx_var 3) (da_cons (dx_var 4) (da_cons (dx_neg (dx_ix (DE.be (dx_var 3)) (DE.be (dx_call F_lead (hr.mono (by decide)) rfl t.m_lead t.d_lead.kp tk (da_cons (dx_var 4) da_nil))))) da_nil)))))) sc_reduced.nd)))
 (dss_cons
 (ds_set (i := 5) (se_p (dx_call F_lead (hr.mono (by decide)) rfl t.m_lead t.d_lead.kp tk (da_cons (dx_var 3) da_nil))) sc_reduced.nd)
 (dss_one (ds_if (dt_cmp (cd_isNot) (DE.be (dx_var 5)) (DE.be dx_non)) (dss_cons
 (ds_set (i := 3) (se_p (dx_call F_scaled (hr.mono (by decide)) rfl t.m_scaled t.d_scaled.kp tk (da_cons (dx_var 0) (da_cons (dx_var 3) (da_cons (dx_call F_inverse (hr.mono (by decide)) rfl t.m_inverse t.d_inverse.kp tk (da_cons (dx_var 0) (da_cons (dx_ix (DE.be (dx_var 3)) (DE.be (dx_var 5))) da_nil))) da_nil))))) sc_reduced.nd)
 (dss_one (ds_set (i := 2) (se_p (dx_add (DE.be (dx_rel (se_lc (own := [("own", 4)]) rfl sc_reduced.nd (bi_seq (DE.be (dx_var 2))) (blk_ok N_reduced ["prime", "row", "place"] (by decide +kernel) (.cons (by first | exact .inl rfl | exact .inr rfl) (.cons (by first | exact .inl rfl | exact .inr rfl) (.cons (by first | exact .inl rfl | exact .inr rfl) .nil)))) (fun _ => (dg_name 4 sc_reduced.nd)) (fun _ => dts_nil) (fun _ => (dx_call F_added (hr.mono (by decide)) rfl t.m_added t.d_added.kp takesN (da_cons (dx_var 0) (da_cons (dx_var 4) (da_cons (dx_var 3) (da_cons (dx_neg (dx_ix (DE.be (dx_var 4)) (DE.be (dx_var 5)))) da_nil)))))) (by decide)))) (DE.be (dx_lst (da_cons (dx_var 3) da_nil))))) sc_reduced.nd))) dss_nil)))))
 (dss_one (ds_ret (DE.be (dx_rel (se_sort rfl t.z_sorted (ba_cons (DE.be (dx_var 2)) ba_nil))))))))
theorem fn_reduced {P : Program} {wd : World} {K : PySem.W.Frag} {mg : Str → Option Value} {base : Heap} {T : Tbl} {a : Ad} (t : Txt K mg a) (F_added : FnN P wd K mg base T 1 a.f_added 4 [] (m_added a)) (F_inverse : FnN P wd K mg base T 1 a.f_inverse 2 [] (m_inverse a)) (F_scaled : FnN P wd K mg base T 1 a.f_scaled 3 [] (m_scaled a)) (F_lead : FnN P wd K mg base T 1 a.f_lead 1 [] (m_lead a)) : FnN P wd K mg base T 2 a.f_reduced 2 [] (m_reduced a) := fnAt0 t.d_reduced sc_reduced (bd_reduced t F_added F_inverse F_scaled F_lead) (fun _ _ _ _ _ _ us hl => match us, hl with | [_, _], _ => rfl)
theorem bd_noughts {P : Program} {wd : World} {K : PySem.W.Frag} {mg : Str → Option Value} {base : Heap} {T : Tbl} {a : Ad} (t : Txt K mg a) (F_reduced : FnN P wd K mg base T 2 a.f_reduced 2 [] (m_reduced a)) (F_lead : FnN P wd K mg base T 1 a.f_lead 1 [] (m_lead a)) : BodyD P wd K mg base T "noughts" s_noughts a.f_noughts a.c_noughts N_noughts 2 (g_noughts a) := by
 intro A outer s H E hr tk
 exact (dss_cons
 (ds_set (i := 3) (se_p (dx_call F_reduced (hr.mono (by decide)) rfl t.m_reduced t.d_reduced.kp tk (da_cons (dx_var 0) (da_cons (dx_var 1) da_nil)))) sc_noughts.nd)
 (dss_cons
 (ds_setLc (own := [("row", 5)]) rfl sc_noughts.nd (bi_seq (DE.be (dx_var 3))) (blk_ok N_noughts [] (by decide +kernel) .nil) (fun _ => (dg_name 5 sc_noughts.nd)) (fun _ => dts_nil) (fun _ => (dx_call F_lead (hr.mono (by decide)) rfl t.m_lead t.d_lead.kp takesN (da_cons (dx_var 5) da_nil))) (by decide))
 (dss_cons
 (ds_set (i := 6) (se_lst da_nil) sc_noughts.nd)
 (dss_cons
 (ds_for (L2.passes_of rfl) rfl (di_rng1 rfl t.z_range (da_cons (dx_var 2) da_nil)) (dg_name 7 sc_noughts.nd) (dss_one (ds_if (dt_cmp (cd_notIn (un1 hr)) (DE.be (dx_var 7)) (bx_own 4)) (dss_cons
 (ds_set (i := 8) (se_mul (DE.be (dx_lst (da_cons dx_int da_nil))) (DE.be (dx_var 2))) sc_noughts.nd)
 (dss_cons
 (ds_subO 8 dx_int (dx_var 7))
 (dss_cons
 (ds_rel 4 (ds_for (L2.passes_of rfl) rfl (di_zip rfl t.z_zip (da_cons (dx_var 3) (da_cons (dx_var 4) da_nil))) (dg_tup rfl (dgs_cons (dg_name 5 sc_noughts.nd) (dgs_cons (dg_name 9 sc_noughts.nd) dgs_nil))) (dss_one (ds_subO 8 (dx_mod (DE.be (dx_neg (dx_ix (DE.be (dx_var 5)) (DE.be (dx_var 7))))) (DE.be (dx_var 0))) (dx_var 9)))))
 (dss_one (ds_appO 6 (dx_tupleOf rfl t.z_tuple (ba_cons (bx_own 8) ba_nil))))))) dss_nil)))
 (dss_one (ds_rel 6 (ds_ret (DE.be (dx_call F_reduced (hr.mono (by decide)) rfl t.m_reduced t.d_reduced.kp tk (da_cons (dx_var 0) (da_cons (dx_var 6) da_nil)))))))))))
theorem fn_noughts {P : Program} {wd : World} {K : PySem.W.Frag} {mg : Str → Option Value} {base : Heap} {T : Tbl} {a : Ad} (t : Txt K mg a) (F_reduced : FnN P wd K mg base T 2 a.f_reduced 2 [] (m_reduced a)) (F_lead : FnN P wd K mg base T 1 a.f_lead 1 [] (m_lead a)) : FnN P wd K mg base T 3 a.f_noughts 3 [] (m_noughts a) := fnAt0 t.d_noughts sc_noughts (bd_noughts t F_reduced F_lead) (fun _ _ _ _ _ _ us hl => match us, hl with | [_, _, _], _ => rfl)
theorem bd_are_rows {P : Program} {wd : World} {K : PySem.W.Frag} {mg : Str → Option Value} {base : Heap} {T : Tbl} {a : Ad} (t : Txt K mg a) (ti : Tin base mg T a) (F_is_row : FnN P wd K mg base T 5 a.f_is_row 3 [] (m_is_row a)) : BodyD P wd K mg base T "are_rows" s_are_rows a.f_are_rows (.ref a.cc_are_rows) N_are_rows 8 (g_are_rows a) := by
 intro A outer s H E hr tk
 exact (dss_cons
 (ds_if (DW.dt (dw_or (dt_not (dt_tru (DE.be (dx_isi "tuple" rfl t.z_isinstance rfl t.z_tuple (by decide +kernel) (DE.be (dx_var 1)))))) (dw_or1 (dt_not (dt_chain (cd_le) (cd_le) (DE.be (dx_var 2)) (DE.be (dx_len rfl t.z_len (ba_cons (DE.be (dx_var 1)) ba_nil))) (DE.be (dx_var 3))))))) (dss_one (ds_ret (DE.be dx_bl))) dss_nil)
 (dss_one (ds_ret (DE.be (dx_all (k := 5) (own := [("row", 5)]) (hr.mono (by decide)) rfl t.z_all (ti.tb_are_rows) rfl ti.in_are_rows ti.no_are_rows sc_are_rows.nd (bi_seq (DE.be (dx_var 1))) (blk_ok N_are_rows ["prime", "many"] (by decide +kernel) (.cons (by first | exact .inl rfl | exact .inr rfl) (.cons (by first | exact .inl rfl | exact .inr rfl) .nil))) (by decide +kernel) (by decide) (fun q => (dg_name 5 sc_are_rows.nd)) (fun q => (dx_call F_is_row (q.room.mono (by decide)) rfl t.m_is_row t.d_is_row.kp takesN (da_cons (dx_var 0) (da_cons (dx_var 5) (da_cons (dx_var 4) da_nil))))))))))
theorem fn_are_rows {P : Program} {wd : World} {K : PySem.W.Frag} {mg : Str → Option Value} {base : Heap} {T : Tbl} {a : Ad} (t : Txt K mg a) (ti : Tin base mg T a) (F_is_row : FnN P wd K mg base T 5 a.f_is_row 3 [] (m_is_row a)) : FnN P wd K mg base T 9 a.f_are_rows 5 [] (m_are_rows a) := fnAt0 t.d_are_rows sc_are_rows (bd_are_rows t ti F_is_row) (fun _ _ _ _ _ _ us hl => match us, hl with | [_, _, _, _, _], _ => rfl)
theorem bd_need_machine {P : Program} {wd : World} {K : PySem.W.Frag} {mg : Str → Option Value} {base : Heap} {T : Tbl} {a : Ad} (t : Txt K mg a) (F_are_rows : FnN P wd K mg base T 9 a.f_are_rows 5 [] (m_are_rows a)) (F_reduced : FnN P wd K mg base T 2 a.f_reduced 2 [] (m_reduced a)) (F_is_number : FnN P wd K mg base T 1 a.f_is_number 3 [] (m_is_number a)) : BodyD P wd K mg base T "need_machine" s_need_machine a.f_need_machine a.c_need_machine N_need_machine 9 (g_need_machine a) := by
 intro A outer s H E hr tk
 exact (dss_cons
 (ds_if (DW.dt (dw_or (dt_not (dt_tru (DE.be (dx_isi "tuple" rfl t.z_isinstance rfl t.z_tuple (by decide +kernel) (DE.be (dx_var 0)))))) (dw_or1 (dt_cmp (cd_ne (un0 hr)) (DE.be (dx_len rfl t.z_len (ba_cons (DE.be (dx_var 0)) ba_nil))) (DE.be dx_int))))) (dss_one (ds_raiseF t.ox_BadMachine (fi_BadMachine t) (hr.mono (by decide)) rfl tk rfl t.mg_BadMachine (da_cons dx_str da_nil))) dss_nil)
 (dss_cons
 (ds_tup (dx_var 0) (dg_tup rfl (dgs_cons (dg_name 1 sc_need_machine.nd) (dgs_cons (dg_name 2 sc_need_machine.nd) (dgs_cons (dg_name 3 sc_need_machine.nd) (dgs_cons (dg_name 4 sc_need_machine.nd) dgs_nil))))))
 (dss_cons
 (ds_if (DW.dt (dw_or (dt_not (dt_tru (DE.be (dx_call F_is_number (hr.mono (by decide)) rfl t.m_is_number t.d_is_number.kp tk (da_cons (dx_var 1) (da_cons dx_int (da_cons dx_int da_nil))))))) (dw_or1 (dt_cmp (cd_notIn (un1 hr)) (DE.be (dx_var 1)) (DE.be (dx_glob rfl t.c_PRIMES (v := .ref a.g_PRIMES) rfl (fun _ _ => .tup (.inr t.kt_PRIMES) (.cons (.int _) (.cons (.int _) (.cons (.int _) (.cons (.int _) .nil))))))))))) (dss_one (ds_raiseF t.ox_BadMachine (fi_BadMachine t) (hr.mono (by decide)) rfl tk rfl t.mg_BadMachine (da_cons dx_str da_nil))) dss_nil)
 (dss_cons
 (ds_if (DW.dt (dw_or (dt_not (dt_tru (DE.be (dx_isi "tuple" rfl t.z_isinstance rfl t.z_tuple (by decide +kernel) (DE.be (dx_var 2)))))) (dw_or1 (dt_not (dt_chain (cd_le) (cd_le) (DE.be dx_int) (DE.be (dx_len rfl t.z_len (ba_cons (DE.be (dx_var 2)) ba_nil))) (DE.be (dx_glob rfl t.c_MOST_CELLS (v := .int 4) ⟨_, rfl⟩ (fun _ _ => .int _)))))))) (dss_one (ds_raiseF t.ox_BadMachine (fi_BadMachine t) (hr.mono (by decide)) rfl tk rfl t.mg_BadMachine (da_cons dx_str da_nil))) dss_nil)
 (dss_cons
 (ds_if (DW.dt (dw_or (dt_not (dt_tru (DE.be (dx_call F_are_rows (hr.mono (by decide)) rfl t.m_are_rows t.d_are_rows.kp tk (da_cons (dx_var 1) (da_cons (dx_var 2) (da_cons (dx_len rfl t.z_len (ba_cons (DE.be (dx_var 2)) ba_nil)) (da_cons (dx_len rfl t.z_len (ba_cons (DE.be (dx_var 2)) ba_nil)) (da_cons (dx_len rfl t.z_len (ba_cons (DE.be (dx_var 2)) ba_nil)) da_nil))))))))) (dw_or1 (dt_cmp (cd_lt (un0 hr)) (DE.be (dx_len rfl t.z_len (ba_cons (DE.be (dx_call F_reduced (hr.mono (by decide)) rfl t.m_reduced t.d_reduced.kp tk (da_cons (dx_var 1) (da_cons (dx_var 2) da_nil)))) ba_nil))) (DE.be (dx_len rfl t.z_len (ba_cons (DE.be (dx_var 2)) ba_nil))))))) (dss_one (ds_raiseF t.ox_BadMachine (fi_BadMachine t) (hr.mono (by decide)) rfl tk rfl t.mg_BadMachine (da_cons dx_str da_nil))) dss_nil)
 (dss_cons
 (ds_if (dt_not (dt_tru (DE.be (dx_call F_are_rows (hr.mono (by decide)) rfl t.m_are_rows t.d_are_rows.kp tk (da_cons (dx_var 1) (da_cons (dx_var 3) (da_cons dx_int (da_cons (dx_glob rfl t.c_MOST_PLUGS (v := .int 4) ⟨_, rfl⟩ (fun _ _ => .int _)) (da_cons (dx_len rfl t.z_len (ba_cons (DE.be (dx_var 2)) ba_nil)) da_nil))))))))) (dss_one (ds_raiseF t.ox_BadMachine (fi_BadMachine t) (hr.mono (by decide)) rfl tk rfl t.mg_BadMachine (da_cons dx_str da_nil))) dss_nil)
 (dss_one (ds_if (dt_not (dt_tru (DE.be (dx_call F_are_rows (hr.mono (by decide)) rfl t.m_are_rows t.d_are_rows.kp tk (da_cons (dx_var 1) (da_cons (dx_var 4) (da_cons dx_int (da_cons (dx_glob rfl t.c_MOST_PLUGS (v := .int 4) ⟨_, rfl⟩ (fun _ _ => .int _)) (da_cons (dx_len rfl t.z_len (ba_cons (DE.be (dx_var 2)) ba_nil)) da_nil))))))))) (dss_one (ds_raiseF t.ox_BadMachine (fi_BadMachine t) (hr.mono (by decide)) rfl tk rfl t.mg_BadMachine (da_cons dx_str da_nil))) dss_nil))))))))
theorem fn_need_machine {P : Program} {wd : World} {K : PySem.W.Frag} {mg : Str → Option Value} {base : Heap} {T : Tbl} {a : Ad} (t : Txt K mg a) (F_are_rows : FnN P wd K mg base T 9 a.f_are_rows 5 [] (m_are_rows a)) (F_reduced : FnN P wd K mg base T 2 a.f_reduced 2 [] (m_reduced a)) (F_is_number : FnN P wd K mg base T 1 a.f_is_number 3 [] (m_is_number a)) : FnN P wd K mg base T 10 a.f_need_machine 1 [] (m_need_machine a) := fnAt0 t.d_need_machine sc_need_machine (bd_need_machine t F_are_rows F_reduced F_is_number) (fun _ _ _ _ _ _ us hl => match us, hl with | [_], _ => rfl)
theorem bd_stirred {P : Program} {wd : World} {K : PySem.W.Frag} {mg : Str → Option Value} {base : Heap} {T : Tbl} {a : Ad} (t : Txt K mg a) (F_times : FnN P wd K mg base T 2 a.f_times 3 [] (m_times a)) : BodyD P wd K mg base T "stirred" s_stirred a.f_stirred a.c_stirred N_stirred 2 (g_stirred a) := by
 intro A outer s H E hr tk
 exact (dss_one (ds_ret (DE.be (dx_call F_times (hr.mono (by decide)) rfl t.m_times t.d_times.kp tk (da_cons (dx_ix (DE.be (dx_var 0)) (DE.be dx_int)) (da_cons (dx_ix (DE.be (dx_var 0)) (DE.be dx_int)) (da_cons (dx_var 1) da_nil)))))))
theorem fn_stirred {P : Program} {wd : World} {K : PySem.W.Frag} {mg : Str → Option Value} {base : Heap} {T : Tbl} {a : Ad} (t : Txt K mg a) (F_times : FnN P wd K mg base T 2 a.f_times 3 [] (m_times a)) : FnN P wd K mg base T 3 a.f_stirred 2 [] (m_stirred a) := fnAt0 t.d_stirred sc_stirred (bd_stirred t F_times) (fun _ _ _ _ _ _ us hl => match us, hl with | [_, _], _ => rfl)
theorem bd_unit {P : Program} {wd : World} {K : PySem.W.Frag} {mg : Str → Option Value} {base : Heap} {T : Tbl} {a : Ad} (t : Txt K mg a) : BodyD P wd K mg base T "unit" s_unit a.f_unit a.c_unit N_unit 0 (g_unit a) := by
 intro A outer s H E hr tk
 exact (dss_one (ds_ret (DE.be (dx_tupleOf rfl t.z_tuple (ba_cons (DE.be (dx_rel (se_lc (own := [("at", 2)]) rfl sc_unit.nd (DI.bi (di_rng1 rfl t.z_range (da_cons (dx_var 0) da_nil))) (blk_ok N_unit ["place"] (by decide +kernel) (.cons (by first | exact .inl rfl | exact .inr rfl) .nil)) (fun _ => (dg_name 2 sc_unit.nd)) (fun _ => dts_nil) (fun _ => (dx_intOf rfl t.z_int (ba_cons (DE.be (dx_cmp (cd_eq (un0 hr)) (DE.be (dx_var 2)) (DE.be (dx_var 1)))) ba_nil))) (by decide)))) ba_nil)))))
theorem fn_unit {P : Program} {wd : World} {K : PySem.W.Frag} {mg : Str → Option Value} {base : Heap} {T : Tbl} {a : Ad} (t : Txt K mg a) : FnN P wd K mg base T 1 a.f_unit 2 [] (m_unit a) := fnAt0 t.d_unit sc_unit (bd_unit t ) (fun _ _ _ _ _ _ us hl => match us, hl with | [_, _], _ => rfl)
theorem bd_grown {P : Program} {wd : World} {K : PySem.W.Frag} {mg : Str → Option Value} {base : Heap} {T : Tbl} {a : Ad} (t : Txt K mg a) {q : Str} {params : Arguments} {body : Expr} {scope : Scope} {cl : List (Str × Addr)} {fr : List Str} {ws : List V} {cs : List D} {mv : List D → Om → Out D} {x0 : Str} (F_reduced : FnN P wd K mg base T 2 a.f_reduced 2 [] (m_reduced a)) (C : CloOk P wd K mg base T 20 q params body scope cl [x0] fr mv) (hl : ∀ F H a, T.lm cN F H a → LamAt q params body scope cl [] F H a ∧ Reps K F H ws cs) (hw : ws.length = fr.length) (hc : ∀ (s : Shared) (H : Hp), (∀ b o, base.get? b = some o → s.heap.get? b = some o ∧ H b = none) → NdefX.CellsAt cl fr (ws.map some) s.heap H) : BodyD P wd K mg base T "grown" s_grown a.f_grown a.c_grown N_grown 20 (g_grown a cs mv) := by
 intro A outer s H E hr tk
 exact (dss_cons
 (ds_set (i := 3) (se_p (dx_call F_reduced (hr.mono (by decide)) rfl t.m_reduced t.d_reduced.kp tk (da_cons (dx_var 0) (da_cons (dx_var 1) da_nil)))) sc_grown.nd)
 (dss_one (ds_whileK 100000 (L2.passes_of rfl) (dt_tru (DE.be dx_bl)) (dss_cons
 (ds_set (i := 4) (se_p (dx_call F_reduced (hr.mono (by decide)) rfl t.m_reduced t.d_reduced.kp tk (da_cons (dx_var 0) (da_cons (dx_add (DE.be (dx_var 3)) (DE.be (dx_rel (se_lc (own := [("row", 5)]) rfl sc_grown.nd (bi_seq (DE.be (dx_var 3))) (blk_ok N_grown ["move"] (by decide +kernel) (.cons (by first | exact .inl rfl | exact .inr rfl) .nil)) (fun _ => (dg_name 5 sc_grown.nd)) (fun _ => dts_nil) (fun _ => (dx_callC1 2 C hl hw (hr.mono (by decide)) takesN hc (da_cons (dx_var 5) da_nil))) (by decide))))) da_nil)))) sc_grown.nd)
 (dss_cons
 (ds_if (dt_cmp (cd_eq (un0 hr)) (DE.be (dx_var 4)) (DE.be (dx_var 3))) (dss_one (ds_ret (DE.be (dx_var 3)))) dss_nil)
 (dss_one (ds_set (i := 3) (se_p (dx_var 4)) sc_grown.nd)))))))
theorem fn_grown {P : Program} {wd : World} {K : PySem.W.Frag} {mg : Str → Option Value} {base : Heap} {T : Tbl} {a : Ad} (t : Txt K mg a) {q : Str} {params : Arguments} {body : Expr} {scope : Scope} {cl : List (Str × Addr)} {fr : List Str} {ws : List V} {cs : List D} {mv : List D → Om → Out D} {x0 : Str} (F_reduced : FnN P wd K mg base T 2 a.f_reduced 2 [] (m_reduced a)) (C : CloOk P wd K mg base T 20 q params body scope cl [x0] fr mv) (hl : ∀ F H a, T.lm cN F H a → LamAt q params body scope cl [] F H a ∧ Reps K F H ws cs) (hw : ws.length = fr.length) (hc : ∀ (s : Shared) (H : Hp), (∀ b o, base.get? b = some o → s.heap.get? b = some o ∧ H b = none) → NdefX.CellsAt cl fr (ws.map some) s.heap H) : FnN P wd K mg base T 21 a.f_grown 3 [] (m_grown a cs mv) := fnAt0 t.d_grown sc_grown (bd_grown t F_reduced C hl hw hc) (fun _ _ _ _ _ _ us hl => match us, hl with | [_, _, _], _ => rfl)
theorem clo_reached_of_0 {P : Program} {wd : World} {K : PySem.W.Frag} {mg : Str → Option Value} {base : Heap} {T : Tbl} {a : Ad} (t : Txt K mg a) (F_stirred : FnN P wd K mg base T 3 a.f_stirred 2 [] (m_stirred a)) {cl : List (Str × Addr)} : CloOk P wd K mg base T 4 (qL "reached_of") (lamP lx_reached_of_0) (lamB lx_reached_of_0) (lamS lx_reached_of_0) cl ["column"] ["machine"] (fnE 2 (lam_reached_of_0 a)) := clo_ok (N := ["column", "machine"]) (NdefX.nscope_by (by decide +kernel)) (fun _ _ _ _ us h => match us, h with | [_], _ => rfl) (fun c' f A outer s H E hr tk => (dx_call F_stirred (hr.mono (by decide)) rfl t.m_stirred t.d_stirred.kp tk (da_cons (dx_var 1) (da_cons (dx_var 0) da_nil))))
theorem bd_reached_of {P : Program} {wd : World} {K : PySem.W.Frag} {mg : Str → Option Value} {base : Heap} {T : Tbl} {a : Ad} (t : Txt K mg a) (M_reached_of : Mkr base mg T a.cc_reached_of a.P_reached_of "reached_of") (G_reached_of_0 : ∀ (base' : Heap) (T' : Tbl) (cl : List (Str × Addr)) (ws : List V) (cs : List D), BaseC base base' cl ["machine"] ws → TblC T T' K cN (qL "reached_of") (lamP lx_reached_of_0) (lamB lx_reached_of_0) (lamS lx_reached_of_0) cl ws cs → FnN P wd K mg base' T' 21 a.f_grown 3 [] ((fun cs => m_grown a cs (fnE 2 (lam_reached_of_0 a))) cs)) : BodyD P wd K mg base T "reached_of" s_reached_of a.f_reached_of (.ref a.cc_reached_of) N_reached_of 21 (g_reached_of a) := by
 intro A outer s H E hr tk
 exact (dss_one (ds_ret (DE.be (dx_callL2 [0] ["machine"] (fun cs => m_grown a cs (fnE 2 (lam_reached_of_0 a))) (hr.mono (by decide)) tk rfl t.m_grown t.d_grown.kp (free_ok ["machine"] (by decide +kernel) (.cons (by first | exact .inl rfl | exact .inr rfl) .nil)) (by decide +kernel) M_reached_of.in_ M_reached_of.un M_reached_of.no G_reached_of_0 (dal_cons (dx_ix (DE.be (dx_var 0)) (DE.be dx_int)) (dal_cons (dx_listOf rfl t.z_list (ba_cons (DE.be (dx_ix (DE.be (dx_var 0)) (DE.be dx_int))) ba_nil)) (dal_lam M_reached_of.tb rfl M_reached_of.in_ rfl (free_ok ["machine"] (by decide +kernel) (.cons (by first | exact .inl rfl | exact .inr rfl) .nil)))))))))
theorem fn_reached_of {P : Program} {wd : World} {K : PySem.W.Frag} {mg : Str → Option Value} {base : Heap} {T : Tbl} {a : Ad} (t : Txt K mg a) (M_reached_of : Mkr base mg T a.cc_reached_of a.P_reached_of "reached_of") (G_reached_of_0 : ∀ (base' : Heap) (T' : Tbl) (cl : List (Str × Addr)) (ws : List V) (cs : List D), BaseC base base' cl ["machine"] ws → TblC T T' K cN (qL "reached_of") (lamP lx_reached_of_0) (lamB lx_reached_of_0) (lamS lx_reached_of_0) cl ws cs → FnN P wd K mg base' T' 21 a.f_grown 3 [] ((fun cs => m_grown a cs (fnE 2 (lam_reached_of_0 a))) cs)) : FnN P wd K mg base T 22 a.f_reached_of 1 [] (m_reached_of a) := fnAt0 t.d_reached_of sc_reached_of (bd_reached_of t M_reached_of G_reached_of_0) (fun _ _ _ _ _ _ us hl => match us, hl with | [_], _ => rfl)
theorem clo_forms_of_0 {P : Program} {wd : World} {K : PySem.W.Frag} {mg : Str → Option Value} {base : Heap} {T : Tbl} {a : Ad} (t : Txt K mg a) (F_behind : FnN P wd K mg base T 1 a.f_behind 3 [] (m_behind a)) {cl : List (Str × Addr)} : CloOk P wd K mg base T 2 (qL "forms_of") (lamP lx_forms_of_0) (lamB lx_forms_of_0) (lamS lx_forms_of_0) cl ["row"] ["machine"] (fnE 2 (lam_forms_of_0 a)) := clo_ok (N := ["row", "machine"]) (NdefX.nscope_by (by decide +kernel)) (fun _ _ _ _ us h => match us, h with | [_], _ => rfl) (fun c' f A outer s H E hr tk => (dx_call F_behind (hr.mono (by decide)) rfl t.m_behind t.d_behind.kp tk (da_cons (dx_ix (DE.be (dx_var 1)) (DE.be dx_int)) (da_cons (dx_var 0) (da_cons (dx_ix (DE.be (dx_var 1)) (DE.be dx_int)) da_nil)))))
theorem bd_forms_of {P : Program} {wd : World} {K : PySem.W.Frag} {mg : Str → Option Value} {base : Heap} {T : Tbl} {a : Ad} (t : Txt K mg a) (M_forms_of : Mkr base mg T a.cc_forms_of a.P_forms_of "forms_of") (G_forms_of_0 : ∀ (base' : Heap) (T' : Tbl) (cl : List (Str × Addr)) (ws : List V) (cs : List D), BaseC base base' cl ["machine"] ws → TblC T T' K cN (qL "forms_of") (lamP lx_forms_of_0) (lamB lx_forms_of_0) (lamS lx_forms_of_0) cl ws cs → FnN P wd K mg base' T' 21 a.f_grown 3 [] ((fun cs => m_grown a cs (fnE 2 (lam_forms_of_0 a))) cs)) : BodyD P wd K mg base T "forms_of" s_forms_of a.f_forms_of (.ref a.cc_forms_of) N_forms_of 21 (g_forms_of a) := by
 intro A outer s H E hr tk
 exact (dss_one (ds_ret (DE.be (dx_callL2 [0] ["machine"] (fun cs => m_grown a cs (fnE 2 (lam_forms_of_0 a))) (hr.mono (by decide)) tk rfl t.m_grown t.d_grown.kp (free_ok ["machine"] (by decide +kernel) (.cons (by first | exact .inl rfl | exact .inr rfl) .nil)) (by decide +kernel) M_forms_of.in_ M_forms_of.un M_forms_of.no G_forms_of_0 (dal_cons (dx_ix (DE.be (dx_var 0)) (DE.be dx_int)) (dal_cons (dx_listOf rfl t.z_list (ba_cons (DE.be (dx_ix (DE.be (dx_var 0)) (DE.be dx_int))) ba_nil)) (dal_lam M_forms_of.tb rfl M_forms_of.in_ rfl (free_ok ["machine"] (by decide +kernel) (.cons (by first | exact .inl rfl | exact .inr rfl) .nil)))))))))
theorem fn_forms_of {P : Program} {wd : World} {K : PySem.W.Frag} {mg : Str → Option Value} {base : Heap} {T : Tbl} {a : Ad} (t : Txt K mg a) (M_forms_of : Mkr base mg T a.cc_forms_of a.P_forms_of "forms_of") (G_forms_of_0 : ∀ (base' : Heap) (T' : Tbl) (cl : List (Str × Addr)) (ws : List V) (cs : List D), BaseC base base' cl ["machine"] ws → TblC T T' K cN (qL "forms_of") (lamP lx_forms_of_0) (lamB lx_forms_of_0) (lamS lx_forms_of_0) cl ws cs → FnN P wd K mg base' T' 21 a.f_grown 3 [] ((fun cs => m_grown a cs (fnE 2 (lam_forms_of_0 a))) cs)) : FnN P wd K mg base T 22 a.f_forms_of 1 [] (m_forms_of a) := fnAt0 t.d_forms_of sc_forms_of (bd_forms_of t M_forms_of G_forms_of_0) (fun _ _ _ _ _ _ us hl => match us, hl with | [_], _ => rfl)
theorem bd_unseen_of {P : Program} {wd : World} {K : PySem.W.Frag} {mg : Str → Option Value} {base : Heap} {T : Tbl} {a : Ad} (t : Txt K mg a) (F_forms_of : FnN P wd K mg base T 22 a.f_forms_of 1 [] (m_forms_of a)) (F_noughts : FnN P wd K mg base T 3 a.f_noughts 3 [] (m_noughts a)) : BodyD P wd K mg base T "unseen_of" s_unseen_of a.f_unseen_of a.c_unseen_of N_unseen_of 22 (g_unseen_of a) := by
 intro A outer s H E hr tk
 exact (dss_one (ds_ret (DE.be (dx_call F_noughts (hr.mono (by decide)) rfl t.m_noughts t.d_noughts.kp tk (da_cons (dx_ix (DE.be (dx_var 0)) (DE.be dx_int)) (da_cons (dx_call F_forms_of (hr.mono (by decide)) rfl t.m_forms_of t.d_forms_of.kp tk (da_cons (dx_var 0) da_nil)) (da_cons (dx_len rfl t.z_len (ba_cons (DE.be (dx_ix (DE.be (dx_var 0)) (DE.be dx_int))) ba_nil)) da_nil)))))))
theorem fn_unseen_of {P : Program} {wd : World} {K : PySem.W.Frag} {mg : Str → Option Value} {base : Heap} {T : Tbl} {a : Ad} (t : Txt K mg a) (F_forms_of : FnN P wd K mg base T 22 a.f_forms_of 1 [] (m_forms_of a)) (F_noughts : FnN P wd K mg base T 3 a.f_noughts 3 [] (m_noughts a)) : FnN P wd K mg base T 23 a.f_unseen_of 1 [] (m_unseen_of a) := fnAt0 t.d_unseen_of sc_unseen_of (bd_unseen_of t F_forms_of F_noughts) (fun _ _ _ _ _ _ us hl => match us, hl with | [_], _ => rfl)
theorem bd_both {P : Program} {wd : World} {K : PySem.W.Frag} {mg : Str → Option Value} {base : Heap} {T : Tbl} {a : Ad} (t : Txt K mg a) (F_noughts : FnN P wd K mg base T 3 a.f_noughts 3 [] (m_noughts a)) (F_unit : FnN P wd K mg base T 1 a.f_unit 2 [] (m_unit a)) : BodyD P wd K mg base T "both" s_both a.f_both a.c_both N_both 3 (g_both a) := by
 intro A outer s H E hr tk
 exact (dss_cons
 (ds_set (i := 4) (se_p (dx_add (DE.be (dx_call F_noughts (hr.mono (by decide)) rfl t.m_noughts t.d_noughts.kp tk (da_cons (dx_var 0) (da_cons (dx_var 1) (da_cons (dx_var 3) da_nil))))) (DE.be (dx_call F_noughts (hr.mono (by decide)) rfl t.m_noughts t.d_noughts.kp tk (da_cons (dx_var 0) (da_cons (dx_var 2) (da_cons (dx_var 3) da_nil))))))) sc_both.nd)
 (dss_one (ds_ret (DE.be (dx_ifExp (dt_tru (DE.be (dx_var 4))) (dx_call F_noughts (hr.mono (by decide)) rfl t.m_noughts t.d_noughts.kp tk (da_cons (dx_var 0) (da_cons (dx_var 4) (da_cons (dx_var 3) da_nil)))) (dx_rel (se_lc (own := [("place", 5)]) rfl sc_both.nd (DI.bi (di_rng1 rfl t.z_range (da_cons (dx_var 3) da_nil))) (blk_ok N_both ["many"] (by decide +kernel) (.cons (by first | exact .inl rfl | exact .inr rfl) .nil)) (fun _ => (dg_name 5 sc_both.nd)) (fun _ => dts_nil) (fun _ => (dx_call F_unit (hr.mono (by decide)) rfl t.m_unit t.d_unit.kp takesN (da_cons (dx_var 3) (da_cons (dx_var 5) da_nil)))) (by decide))))))))
theorem fn_both {P : Program} {wd : World} {K : PySem.W.Frag} {mg : Str → Option Value} {base : Heap} {T : Tbl} {a : Ad} (t : Txt K mg a) (F_noughts : FnN P wd K mg base T 3 a.f_noughts 3 [] (m_noughts a)) (F_unit : FnN P wd K mg base T 1 a.f_unit 2 [] (m_unit a)) : FnN P wd K mg base T 4 a.f_both 4 [] (m_both a) := fnAt0 t.d_both sc_both (bd_both t F_noughts F_unit) (fun _ _ _ _ _ _ us hl => match us, hl with | [_, _, _, _], _ => rfl)
theorem bd_reached {P : Program} {wd : World} {K : PySem.W.Frag} {mg : Str → Option Value} {base : Heap} {T : Tbl} {a : Ad} (t : Txt K mg a) (F_reached_of : FnN P wd K mg base T 22 a.f_reached_of 1 [] (m_reached_of a)) (F_need_machine : FnN P wd K mg base T 10 a.f_need_machine 1 [] (m_need_machine a)) : BodyD P wd K mg base T "reached" s_reached a.f_reached a.c_reached N_reached 22 (g_reached a) := by
 intro A outer s H E hr tk
 exact (dss_cons
 (ds_expr (DE.be (dx_call F_need_machine (hr.mono (by decide)) rfl t.m_need_machine t.d_need_machine.kp tk (da_cons (dx_var 0) da_nil))))
 (dss_one (ds_ret (DE.be (dx_tupleOf rfl t.z_tuple (ba_cons (DE.be (dx_call F_reached_of (hr.mono (by decide)) rfl t.m_reached_of t.d_reached_of.kp tk (da_cons (dx_var 0) da_nil))) ba_nil))))))
theorem fn_reached {P : Program} {wd : World} {K : PySem.W.Frag} {mg : Str → Option Value} {base : Heap} {T : Tbl} {a : Ad} (t : Txt K mg a) (F_reached_of : FnN P wd K mg base T 22 a.f_reached_of 1 [] (m_reached_of a)) (F_need_machine : FnN P wd K mg base T 10 a.f_need_machine 1 [] (m_need_machine a)) : FnN P wd K mg base T 23 a.f_reached 1 [] (m_reached a) := fnAt0 t.d_reached sc_reached (bd_reached t F_reached_of F_need_machine) (fun _ _ _ _ _ _ us hl => match us, hl with | [_], _ => rfl)
theorem bd_unseen {P : Program} {wd : World} {K : PySem.W.Frag} {mg : Str → Option Value} {base : Heap} {T : Tbl} {a : Ad} (t : Txt K mg a) (F_unseen_of : FnN P wd K mg base T 23 a.f_unseen_of 1 [] (m_unseen_of a)) (F_need_machine : FnN P wd K mg base T 10 a.f_need_machine 1 [] (m_need_machine a)) : BodyD P wd K mg base T "unseen" s_unseen a.f_unseen a.c_unseen N_unseen 23 (g_unseen a) := by
 intro A outer s H E hr tk
 exact (dss_cons
 (ds_expr (DE.be (dx_call F_need_machine (hr.mono (by decide)) rfl t.m_need_machine t.d_need_machine.kp tk (da_cons (dx_var 0) da_nil))))
 (dss_one (ds_ret (DE.be (dx_tupleOf rfl t.z_tuple (ba_cons (DE.be (dx_call F_unseen_of (hr.mono (by decide)) rfl t.m_unseen_of t.d_unseen_of.kp tk (da_cons (dx_var 0) da_nil))) ba_nil))))))
theorem fn_unseen {P : Program} {wd : World} {K : PySem.W.Frag} {mg : Str → Option Value} {base : Heap} {T : Tbl} {a : Ad} (t : Txt K mg a) (F_unseen_of : FnN P wd K mg base T 23 a.f_unseen_of 1 [] (m_unseen_of a)) (F_need_machine : FnN P wd K mg base T 10 a.f_need_machine 1 [] (m_need_machine a)) : FnN P wd K mg base T 24 a.f_unseen 1 [] (m_unseen a) := fnAt0 t.d_unseen sc_unseen (bd_unseen t F_unseen_of F_need_machine) (fun _ _ _ _ _ _ us hl => match us, hl with | [_], _ => rfl)
theorem bd_lost_of {P : Program} {wd : World} {K : PySem.W.Frag} {mg : Str → Option Value} {base : Heap} {T : Tbl} {a : Ad} (t : Txt K mg a) (F_unseen_of : FnN P wd K mg base T 23 a.f_unseen_of 1 [] (m_unseen_of a)) (F_reached_of : FnN P wd K mg base T 22 a.f_reached_of 1 [] (m_reached_of a)) (F_both : FnN P wd K mg base T 4 a.f_both 4 [] (m_both a)) : BodyD P wd K mg base T "lost_of" s_lost_of a.f_lost_of a.c_lost_of N_lost_of 23 (g_lost_of a) := by
 intro A outer s H E hr tk
 exact (dss_one (ds_ret (DE.be (dx_call F_both (hr.mono (by decide)) rfl t.m_both t.d_both.kp tk (da_cons (dx_ix (DE.be (dx_var 0)) (DE.be dx_int)) (da_cons (dx_call F_reached_of (hr.mono (by decide)) rfl t.m_reached_of t.d_reached_of.kp tk (da_cons (dx_var 0) da_nil)) (da_cons (dx_call F_unseen_of (hr.mono (by decide)) rfl t.m_unseen_of t.d_unseen_of.kp tk (da_cons (dx_var 0) da_nil)) (da_cons (dx_len rfl t.z_len (ba_cons (DE.be (dx_ix (DE.be (dx_var 0)) (DE.be dx_int))) ba_nil)) da_nil))))))))
theorem fn_lost_of {P : Program} {wd : World} {K : PySem.W.Frag} {mg : Str → Option Value} {base : Heap} {T : Tbl} {a : Ad} (t : Txt K mg a) (F_unseen_of : FnN P wd K mg base T 23 a.f_unseen_of 1 [] (m_unseen_of a)) (F_reached_of : FnN P wd K mg base T 22 a.f_reached_of 1 [] (m_reached_of a)) (F_both : FnN P wd K mg base T 4 a.f_both 4 [] (m_both a)) : FnN P wd K mg base T 24 a.f_lost_of 1 [] (m_lost_of a) := fnAt0 t.d_lost_of sc_lost_of (bd_lost_of t F_unseen_of F_reached_of F_both) (fun _ _ _ _ _ _ us hl => match us, hl with | [_], _ => rfl)
theorem bd_lost {P : Program} {wd : World} {K : PySem.W.Frag} {mg : Str → Option Value} {base : Heap} {T : Tbl} {a : Ad} (t : Txt K mg a) (F_lost_of : FnN P wd K mg base T 24 a.f_lost_of 1 [] (m_lost_of a)) (F_need_machine : FnN P wd K mg base T 10 a.f_need_machine 1 [] (m_need_machine a)) : BodyD P wd K mg base T "lost" s_lost a.f_lost a.c_lost N_lost 24 (g_lost a) := by
 intro A outer s H E hr tk
 exact (dss_cons
 (ds_expr (DE.be (dx_call F_need_machine (hr.mono (by decide)) rfl t.m_need_machine t.d_need_machine.kp tk (da_cons (dx_var 0) da_nil))))
 (dss_one (ds_ret (DE.be (dx_tupleOf rfl t.z_tuple (ba_cons (DE.be (dx_call F_lost_of (hr.mono (by decide)) rfl t.m_lost_of t.d_lost_of.kp tk (da_cons (dx_var 0) da_nil))) ba_nil))))))
theorem fn_lost {P : Program} {wd : World} {K : PySem.W.Frag} {mg : Str → Option Value} {base : Heap} {T : Tbl} {a : Ad} (t : Txt K mg a) (F_lost_of : FnN P wd K mg base T 24 a.f_lost_of 1 [] (m_lost_of a)) (F_need_machine : FnN P wd K mg base T 10 a.f_need_machine 1 [] (m_need_machine a)) : FnN P wd K mg base T 25 a.f_lost 1 [] (m_lost a) := fnAt0 t.d_lost sc_lost (bd_lost t F_lost_of F_need_machine) (fun _ _ _ _ _ _ us hl => match us, hl with | [_], _ => rfl)
theorem bd_keeps_of {P : Program} {wd : World} {K : PySem.W.Frag} {mg : Str → Option Value} {base : Heap} {T : Tbl} {a : Ad} (t : Txt K mg a) (F_reached_of : FnN P wd K mg base T 22 a.f_reached_of 1 [] (m_reached_of a)) (F_lost_of : FnN P wd K mg base T 24 a.f_lost_of 1 [] (m_lost_of a)) : BodyD P wd K mg base T "keeps_of" s_keeps_of a.f_keeps_of a.c_keeps_of N_keeps_of 24 (g_keeps_of a) := by
 intro A outer s H E hr tk
 exact (dss_one (ds_ret (DE.be (dx_sub (DE.be (dx_len rfl t.z_len (ba_cons (DE.be (dx_call F_reached_of (hr.mono (by decide)) rfl t.m_reached_of t.d_reached_of.kp tk (da_cons (dx_var 0) da_nil))) ba_nil))) (DE.be (dx_len rfl t.z_len (ba_cons (DE.be (dx_call F_lost_of (hr.mono (by decide)) rfl t.m_lost_of t.d_lost_of.kp tk (da_cons (dx_var 0) da_nil))) ba_nil)))))))
theorem fn_keeps_of {P : Program} {wd : World} {K : PySem.W.Frag} {mg : Str → Option Value} {base : Heap} {T : Tbl} {a : Ad} (t : Txt K mg a) (F_reached_of : FnN P wd K mg base T 22 a.f_reached_of 1 [] (m_reached_of a)) (F_lost_of : FnN P wd K mg base T 24 a.f_lost_of 1 [] (m_lost_of a)) : FnN P wd K mg base T 25 a.f_keeps_of 1 [] (m_keeps_of a) := fnAt0 t.d_keeps_of sc_keeps_of (bd_keeps_of t F_reached_of F_lost_of) (fun _ _ _ _ _ _ us hl => match us, hl with | [_], _ => rfl)
theorem bd_keeps {P : Program} {wd : World} {K : PySem.W.Frag} {mg : Str → Option Value} {base : Heap} {T : Tbl} {a : Ad} (t : Txt K mg a) (F_keeps_of : FnN P wd K mg base T 25 a.f_keeps_of 1 [] (m_keeps_of a)) (F_need_machine : FnN P wd K mg base T 10 a.f_need_machine 1 [] (m_need_machine a)) : BodyD P wd K mg base T "keeps" s_keeps a.f_keeps a.c_keeps N_keeps 25 (g_keeps a) := by
 intro A outer s H E hr tk
 exact (dss_cons
 (ds_expr (DE.be (dx_call F_need_machine (hr.mono (by decide)) rfl t.m_need_machine t.d_need_machine.kp tk (da_cons (dx_var 0) da_nil))))
 (dss_one (ds_ret (DE.be (dx_call F_keeps_of (hr.mono (by decide)) rfl t.m_keeps_of t.d_keeps_of.kp tk (da_cons (dx_var 0) da_nil))))))
theorem fn_keeps {P : Program} {wd : World} {K : PySem.W.Frag} {mg : Str → Option Value} {base : Heap} {T : Tbl} {a : Ad} (t : Txt K mg a) (F_keeps_of : FnN P wd K mg base T 25 a.f_keeps_of 1 [] (m_keeps_of a)) (F_need_machine : FnN P wd K mg base T 10 a.f_need_machine 1 [] (m_need_machine a)) : FnN P wd K mg base T 26 a.f_keeps 1 [] (m_keeps a) := fnAt0 t.d_keeps sc_keeps (bd_keeps t F_keeps_of F_need_machine) (fun _ _ _ _ _ _ us hl => match us, hl with | [_], _ => rfl)
theorem bd_law_taken {P : Program} {wd : World} {K : PySem.W.Frag} {mg : Str → Option Value} {base : Heap} {T : Tbl} {a : Ad} (t : Txt K mg a) : BodyD P wd K mg base T "_law_taken" s_law_taken a.f_law_taken a.c_law_taken N_law_taken 0 (g_law_taken a) := by
 intro A outer s H E hr tk
 exact (dss_cons
 (ds_if (dt_cmp (cd_gt) (DE.be (dx_ixW (dx_var 0) dx_int)) (DE.be dx_int)) (dss_cons
 (ds_set (i := 2) (se_p (dx_mod (DE.be (dx_intOf rfl t.z_int (ba_cons (DE.be (dx_ixW (dx_var 0) dx_int)) ba_nil))) (DE.be (dx_var 1)))) sc_law_taken.nd)
 (dss_cons
 (ds_subW (dx_fdiv (DE.be (dx_ixW (dx_var 0) dx_int)) (DE.be (dx_var 1))) (dx_var 0) dx_int)
 (dss_one (ds_ret (DE.be (dx_var 2)))))) dss_nil)
 (dss_cons
 (ds_subW (dx_add (DE.be (dx_ixW (dx_var 0) dx_int)) (DE.be dx_int)) (dx_var 0) dx_int)
 (dss_cons
 (ds_if (dt_cmp (cd_gt) (DE.be (dx_ixW (dx_var 0) dx_int)) (DE.be (dx_len rfl t.z_len (ba_cons (DE.be (dx_ixW (dx_var 0) dx_int)) ba_nil)))) (dss_cons
 (ds_subW (dx_mod (DE.be (dx_intOf rfl t.z_int (ba_cons (DE.be (dx_add (DE.be (dx_mul (DE.be (dx_ixW (dx_var 0) dx_int)) (DE.be dx_int))) (DE.be dx_int))) ba_nil))) (DE.be dx_int)) (dx_var 0) dx_int)
 (dss_one (ds_ret (DE.be (dx_mod (DE.be (dx_intOf rfl t.z_int (ba_cons (DE.be (dx_fdiv (DE.be (dx_ixW (dx_var 0) dx_int)) (DE.be dx_int))) ba_nil))) (DE.be (dx_var 1))))))) dss_nil)
 (dss_cons
 (ds_set (i := 3) (se_p (dx_ix (DE.be (dx_ixW (dx_var 0) dx_int)) (DE.be (dx_sub (DE.be (dx_ixW (dx_var 0) dx_int)) (DE.be dx_int))))) sc_law_taken.nd)
 (dss_cons
 (ds_subW (dx_mod (DE.be (dx_intOf rfl t.z_int (ba_cons (DE.be (dx_add (DE.be (dx_add (DE.be (dx_mul (DE.be (dx_ixW (dx_var 0) dx_int)) (DE.be dx_int))) (DE.be (dx_var 3)))) (DE.be dx_int))) ba_nil))) (DE.be dx_int)) (dx_var 0) dx_int)
 (dss_cons
 (ds_if (dt_cmp (cd_ge) (DE.be (dx_var 3)) (DE.be (dx_pow (DE.be dx_int) (DE.be dx_int)))) (dss_one (ds_subW (dx_fdiv (DE.be (dx_var 3)) (DE.be (dx_var 1))) (dx_var 0) dx_int)) dss_nil)
 (dss_one (ds_ret (DE.be (dx_mod (DE.be (dx_intOf rfl t.z_int (ba_cons (DE.be (dx_var 3)) ba_nil))) (DE.be (dx_var 1))))))))))))
theorem fn_law_taken {P : Program} {wd : World} {K : PySem.W.Frag} {mg : Str → Option Value} {base : Heap} {T : Tbl} {a : Ad} (t : Txt K mg a) : FnN P wd K mg base T 1 a.f_law_taken 2 [] (m_law_taken a) := fnAt0 t.d_law_taken sc_law_taken (bd_law_taken t ) (fun _ _ _ _ _ _ us hl => match us, hl with | [_, _], _ => rfl)
theorem bd_law_pick {P : Program} {wd : World} {K : PySem.W.Frag} {mg : Str → Option Value} {base : Heap} {T : Tbl} {a : Ad} (t : Txt K mg a) (F_law_taken : FnN P wd K mg base T 1 a.f_law_taken 2 [] (m_law_taken a)) : BodyD P wd K mg base T "_law_pick" s_law_pick a.f_law_pick a.c_law_pick N_law_pick 1 (g_law_pick a) := by
 intro A outer s H E hr tk
 exact (dss_one (ds_ret (DE.be (dx_ix (DE.be (dx_var 1)) (DE.be (dx_call F_law_taken (hr.mono (by decide)) rfl t.m_law_taken t.d_law_taken.kp tk (da_cons (dx_var 0) (da_cons (dx_len rfl t.z_len (ba_cons (DE.be (dx_var 1)) ba_nil)) da_nil))))))))
theorem fn_law_pick {P : Program} {wd : World} {K : PySem.W.Frag} {mg : Str → Option Value} {base : Heap} {T : Tbl} {a : Ad} (t : Txt K mg a) (F_law_taken : FnN P wd K mg base T 1 a.f_law_taken 2 [] (m_law_taken a)) : FnN P wd K mg base T 2 a.f_law_pick 2 [] (m_law_pick a) := fnAt0 t.d_law_pick sc_law_pick (bd_law_pick t F_law_taken) (fun _ _ _ _ _ _ us hl => match us, hl with | [_, _], _ => rfl)
theorem bd_law_alike {P : Program} {wd : World} {K : PySem.W.Frag} {mg : Str → Option Value} {base : Heap} {T : Tbl} {a : Ad} (t : Txt K mg a) {m : List D → Om → Out D} (n : Nat) (ih : FnN P wd K mg base T (0 + n + 1) a.f_law_alike 2 [] m) : BodyD P wd K mg base T "_law_alike" s_law_alike a.f_law_alike a.c_law_alike N_law_alike (0 + n + 1) (g_law_alike a m) := by
 intro A outer s H E hr tk
 exact (dss_cons
 (ds_if (dt_tru (DE.be (dx_isi2 "tuple" "list" rfl t.z_isinstance rfl t.z_tuple (by decide +kernel) rfl t.z_list (by decide +kernel) (DE.be (dx_var 1))))) (dss_cons
 (ds_if (DW.dt (dw_or (dt_not (dt_tru (DE.be (dx_isi2 "tuple" "list" rfl t.z_isinstance rfl t.z_tuple (by decide +kernel) rfl t.z_list (by decide +kernel) (DE.be (dx_var 0)))))) (dw_or1 (dt_cmp (cd_ne (un0 hr)) (DE.be (dx_isi "list" rfl t.z_isinstance rfl t.z_list (by decide +kernel) (DE.be (dx_var 0)))) (DE.be (dx_isi "list" rfl t.z_isinstance rfl t.z_list (by decide +kernel) (DE.be (dx_var 1)))))))) (dss_one (ds_ret (DE.be dx_bl))) dss_nil)
 (dss_cons
 (ds_if (dt_cmp (cd_ne (un0 hr)) (DE.be (dx_len rfl t.z_len (ba_cons (DE.be (dx_var 0)) ba_nil))) (DE.be (dx_len rfl t.z_len (ba_cons (DE.be (dx_var 1)) ba_nil)))) (dss_one (ds_ret (DE.be dx_bl))) dss_nil)
 (dss_one (ds_ret (DE.be (dx_cmp (cd_eq (un0 hr)) (DE.be (dx_rel (se_lc (own := [("_law_k", 2)]) rfl sc_law_alike.nd (DI.bi (di_rng1 rfl t.z_range (da_cons (dx_len rfl t.z_len (ba_cons (DE.be (dx_var 1)) ba_nil)) da_nil))) (blk_ok N_law_alike ["_law_found", "_law_due"] (by decide +kernel) (.cons (by first | exact .inl rfl | exact .inr rfl) (.cons (by first | exact .inl rfl | exact .inr rfl) .nil))) (fun _ => (dg_name 2 sc_law_alike.nd)) (fun _ => (dts_one (dt_not (dt_tru (DE.be (dx_call ih hr rfl t.m_law_alike t.d_law_alike.kp takesN (da_cons (dx_ix (DE.be (dx_var 0)) (DE.be (dx_var 2))) (da_cons (dx_ix (DE.be (dx_var 1)) (DE.be (dx_var 2))) da_nil)))))))) (fun _ => (dx_var 2)) (by decide)))) (DE.be (dx_lst da_nil)))))))) dss_nil)
 (dss_cons
 (ds_if (DW.dt (dw_or (dt_cmp (cd_is) (DE.be (dx_var 1)) (DE.be dx_non)) (dw_or1 (dt_tru (DE.be (dx_isi "str" rfl t.z_isinstance rfl t.z_str (by decide +kernel) (DE.be (dx_var 1)))))))) (dss_one (ds_ret (DE.be (dx_and (dx_cmp (cd_eq (un0 hr)) (DE.be (dx_var 0)) (DE.be (dx_var 1))) (dx_one (dx_cmp (cd_eq (un0 hr)) (DE.be (dx_isi "str" rfl t.z_isinstance rfl t.z_str (by decide +kernel) (DE.be (dx_var 0)))) (DE.be (dx_isi "str" rfl t.z_isinstance rfl t.z_str (by decide +kernel) (DE.be (dx_var 1)))))))))) dss_nil)
 (dss_one (ds_ret (DE.be (dx_and (dx_isi "int" rfl t.z_isinstance rfl t.z_int (by decide +kernel) (DE.be (dx_var 0))) (dx_and (dx_cmp (cd_eq (un0 hr)) (DE.be (dx_isi "bool" rfl t.z_isinstance rfl t.z_bool (by decide +kernel) (DE.be (dx_var 0)))) (DE.be (dx_isi "bool" rfl t.z_isinstance rfl t.z_bool (by decide +kernel) (DE.be (dx_var 1))))) (dx_one (dx_cmp (cd_eq (un0 hr)) (DE.be (dx_var 0)) (DE.be (dx_var 1)))))))))))
theorem fn_law_alike {P : Program} {wd : World} {K : PySem.W.Frag} {mg : Str → Option Value} {base : Heap} {T : Tbl} {a : Ad} (t : Txt K mg a) : ∀ n : Nat, FnN P wd K mg base T (0 + n + 1) a.f_law_alike 2 [] (m_law_alike a n)
  | 0 => fnAt0 t.d_law_alike sc_law_alike (fun _ _ _ _ _ _ _ => dss_never) (fun _ _ _ _ _ _ us hl => match us, hl with | [_, _], _ => rfl)
  | n + 1 => fnAt0 t.d_law_alike sc_law_alike (bd_law_alike t  n (fn_law_alike t  n)) (fun _ _ _ _ _ _ us hl => match us, hl with | [_, _], _ => rfl)
theorem bd_law_row {P : Program} {wd : World} {K : PySem.W.Frag} {mg : Str → Option Value} {base : Heap} {T : Tbl} {a : Ad} (t : Txt K mg a) (F_law_taken : FnN P wd K mg base T 1 a.f_law_taken 2 [] (m_law_taken a)) : BodyD P wd K mg base T "_law_row" s_law_row a.f_law_row a.c_law_row N_law_row 1 (g_law_row a) := by
 intro A outer s H E hr tk
 exact (dss_one (ds_ret (DE.be (dx_tupleOf rfl t.z_tuple (ba_cons (DE.be (dx_rel (se_lc (own := [("_law_place", 3)]) rfl sc_law_row.nd (DI.bi (di_rng1 rfl t.z_range (da_cons (dx_var 2) da_nil))) (blk_ok N_law_row ["_law_row_here", "_law_prime"] (by decide +kernel) (.cons (by first | exact .inl rfl | exact .inr rfl) (.cons (by first | exact .inl rfl | exact .inr rfl) .nil))) (fun _ => (dg_name 3 sc_law_row.nd)) (fun _ => dts_nil) (fun _ => (dx_ifExp (dt_cmp (cd_gt) (DE.be (dx_call F_law_taken (hr.mono (by decide)) rfl t.m_law_taken t.d_law_taken.kp takesN (da_cons (dx_var 0) (da_cons dx_int da_nil)))) (DE.be dx_int)) (dx_call F_law_taken (hr.mono (by decide)) rfl t.m_law_taken t.d_law_taken.kp takesN (da_cons (dx_var 0) (da_cons (dx_var 1) da_nil))) dx_int)) (by decide)))) ba_nil)))))
theorem fn_law_row {P : Program} {wd : World} {K : PySem.W.Frag} {mg : Str → Option Value} {base : Heap} {T : Tbl} {a : Ad} (t : Txt K mg a) (F_law_taken : FnN P wd K mg base T 1 a.f_law_taken 2 [] (m_law_taken a)) : FnN P wd K mg base T 2 a.f_law_row 3 [] (m_law_row a) := fnAt0 t.d_law_row sc_law_row (bd_law_row t F_law_taken) (fun _ _ _ _ _ _ us hl => match us, hl with | [_, _, _], _ => rfl)
theorem bd_law_stir {P : Program} {wd : World} {K : PySem.W.Frag} {mg : Str → Option Value} {base : Heap} {T : Tbl} {a : Ad} (t : Txt K mg a) (F_law_taken : FnN P wd K mg base T 1 a.f_law_taken 2 [] (m_law_taken a)) : BodyD P wd K mg base T "_law_stir" s_law_stir a.f_law_stir a.c_law_stir N_law_stir 1 (g_law_stir a) := by
 intro A outer s H E hr tk
 exact (dss_cons
 (ds_setLc (own := [("_law_other", 5)]) rfl sc_law_stir.nd (DI.bi (di_rng1 rfl t.z_range (da_cons (dx_var 2) da_nil))) (blk_ok N_law_stir ["_law_many"] (by decide +kernel) (.cons (by first | exact .inl rfl | exact .inr rfl) .nil)) (fun _ => (dg_name 5 sc_law_stir.nd)) (fun _ => dts_nil) (fun _ => (dx_rel (se_lc (own := [("_law_one", 4)]) rfl sc_law_stir.nd (DI.bi (di_rng1 rfl t.z_range (da_cons (dx_var 2) da_nil))) (blk_ok N_law_stir ["_law_other"] (by decide +kernel) (.cons (by first | exact .inl rfl | exact .inr rfl) .nil)) (fun _ => (dg_name 4 sc_law_stir.nd)) (fun _ => dts_nil) (fun _ => (dx_intOf rfl t.z_int (ba_cons (DE.be (dx_cmp (cd_eq (un0 hr)) (DE.be (dx_var 4)) (DE.be (dx_var 5)))) ba_nil))) (by decide)))) (by decide))
 (dss_cons
 (ds_for (L2.passes_of rfl) rfl (di_rng1 rfl t.z_range (da_cons (dx_call F_law_taken (hr.mono (by decide)) rfl t.m_law_taken t.d_law_taken.kp tk (da_cons (dx_var 0) (da_cons dx_int da_nil))) da_nil)) (dg_name 6 sc_law_stir.nd) (dss_cons
 (ds_parT (is := [4, 5, 7]) rfl sc_law_stir.nd (sa_cons (se_p (dx_call F_law_taken (hr.mono (by decide)) rfl t.m_law_taken t.d_law_taken.kp tk (da_cons (dx_var 0) (da_cons (dx_var 2) da_nil)))) (sa_cons (se_p (dx_call F_law_taken (hr.mono (by decide)) rfl t.m_law_taken t.d_law_taken.kp tk (da_cons (dx_var 0) (da_cons (dx_var 2) da_nil)))) (sa_cons (se_p (dx_add (DE.be dx_int) (DE.be (dx_call F_law_taken (hr.mono (by decide)) rfl t.m_law_taken t.d_law_taken.kp tk (da_cons (dx_var 0) (da_cons (dx_sub (DE.be (dx_var 1)) (DE.be dx_int)) da_nil)))))) sa_nil))) (.cons (i := 4) rfl (by first | exact .inl rfl | exact .inr rfl) (by first | exact .inl rfl | exact .inr rfl) rfl (.cons (i := 5) rfl (by first | exact .inl rfl | exact .inr rfl) (by first | exact .inl rfl | exact .inr rfl) rfl (.cons (i := 7) rfl (by first | exact .inl rfl | exact .inr rfl) (by first | exact .inl rfl | exact .inr rfl) rfl .nil))))
 (dss_cons
 (ds_if (dt_cmp (cd_ne (un0 hr)) (DE.be (dx_var 4)) (DE.be (dx_var 5))) (dss_one (ds_subO 3 (dx_rel (se_lc (own := [("_law_left", 8), ("_law_right", 9)]) rfl sc_law_stir.nd (bi_zip rfl t.z_zip (ba_cons (DE.be (dx_ix (bx_own 3) (DE.be (dx_var 4)))) (ba_cons (DE.be (dx_ix (bx_own 3) (DE.be (dx_var 5)))) ba_nil))) (blk_ok N_law_stir ["_law_factor", "_law_prime"] (by decide +kernel) (.cons (by first | exact .inl rfl | exact .inr rfl) (.cons (by first | exact .inl rfl | exact .inr rfl) .nil))) (fun _ => (dg_tup rfl (dgs_cons (dg_name 8 sc_law_stir.nd) (dgs_cons (dg_name 9 sc_law_stir.nd) dgs_nil)))) (fun _ => dts_nil) (fun _ => (dx_mod (DE.be (dx_add (DE.be (dx_var 8)) (DE.be (dx_mul (DE.be (dx_var 7)) (DE.be (dx_var 9)))))) (DE.be (dx_var 1)))) (by decide))) (dx_var 4))) dss_nil)
 (dss_one (ds_swap 3 rfl (da_cons (dx_ix (bx_own 3) (DE.be (dx_var 5))) (da_cons (dx_ix (bx_own 3) (DE.be (dx_var 4))) da_nil)) (dx_var 4) (dx_var 5))))))
 (dss_one (ds_ret (DE.be (dx_tupleOf rfl t.z_tuple (ba_cons (DE.be (dx_rel (se_lc (own := [("_law_line", 10)]) rfl sc_law_stir.nd (bi_seq (bx_own 3)) (blk_ok N_law_stir [] (by decide +kernel) .nil) (fun _ => (dg_name 10 sc_law_stir.nd)) (fun _ => dts_nil) (fun _ => (dx_tupleOf rfl t.z_tuple (ba_cons (DE.be (dx_var 10)) ba_nil))) (by decide)))) ba_nil)))))))
theorem fn_law_stir {P : Program} {wd : World} {K : PySem.W.Frag} {mg : Str → Option Value} {base : Heap} {T : Tbl} {a : Ad} (t : Txt K mg a) (F_law_taken : FnN P wd K mg base T 1 a.f_law_taken 2 [] (m_law_taken a)) : FnN P wd K mg base T 2 a.f_law_stir 3 [] (m_law_stir a) := fnAt0 t.d_law_stir sc_law_stir (bd_law_stir t F_law_taken) (fun _ _ _ _ _ _ us hl => match us, hl with | [_, _, _], _ => rfl)
theorem bd_law_machine {P : Program} {wd : World} {K : PySem.W.Frag} {mg : Str → Option Value} {base : Heap} {T : Tbl} {a : Ad} (t : Txt K mg a) (F_law_stir : FnN P wd K mg base T 2 a.f_law_stir 3 [] (m_law_stir a)) (F_law_taken : FnN P wd K mg base T 1 a.f_law_taken 2 [] (m_law_taken a)) (F_law_row : FnN P wd K mg base T 2 a.f_law_row 3 [] (m_law_row a)) (F_law_pick : FnN P wd K mg base T 2 a.f_law_pick 2 [] (m_law_pick a)) : BodyD P wd K mg base T "_law_machine" s_law_machine a.f_law_machine a.c_law_machine N_law_machine 2 (g_law_machine a) := by
 intro A outer s H E hr tk
 exact (dss_cons
 (ds_parT (is := [4, 5]) rfl sc_law_machine.nd (sa_cons (se_p (dx_call F_law_pick (hr.mono (by decide)) rfl t.m_law_pick t.d_law_pick.kp tk (da_cons (dx_var 0) (da_cons (dx_var 1) da_nil)))) (sa_cons (se_p (dx_add (DE.be dx_int) (DE.be (dx_call F_law_taken (hr.mono (by decide)) rfl t.m_law_taken t.d_law_taken.kp tk (da_cons (dx_var 0) (da_cons (dx_var 2) da_nil)))))) sa_nil)) (.cons (i := 4) rfl (by first | exact .inl rfl | exact .inr rfl) (by first | exact .inl rfl | exact .inr rfl) rfl (.cons (i := 5) rfl (by first | exact .inl rfl | exact .inr rfl) (by first | exact .inl rfl | exact .inr rfl) rfl .nil)))
 (dss_cons
 (ds_setLc (own := [("_law_turn", 7)]) rfl sc_law_machine.nd (DI.bi (di_rng1 rfl t.z_range (da_cons (dx_add (DE.be dx_int) (DE.be (dx_call F_law_taken (hr.mono (by decide)) rfl t.m_law_taken t.d_law_taken.kp tk (da_cons (dx_var 0) (da_cons (dx_var 3) da_nil))))) da_nil))) (blk_ok N_law_machine ["_law_row_here", "_law_prime", "_law_many"] (by decide +kernel) (.cons (by first | exact .inl rfl | exact .inr rfl) (.cons (by first | exact .inl rfl | exact .inr rfl) (.cons (by first | exact .inl rfl | exact .inr rfl) .nil)))) (fun _ => (dg_name 7 sc_law_machine.nd)) (fun _ => dts_nil) (fun _ => (dx_call F_law_row (hr.mono (by decide)) rfl t.m_law_row t.d_law_row.kp takesN (da_cons (dx_var 0) (da_cons (dx_var 4) (da_cons (dx_var 5) da_nil))))) (by decide))
 (dss_cons
 (ds_setLc (own := [("_law_turn", 7)]) rfl sc_law_machine.nd (DI.bi (di_rng1 rfl t.z_range (da_cons (dx_add (DE.be dx_int) (DE.be (dx_call F_law_taken (hr.mono (by decide)) rfl t.m_law_taken t.d_law_taken.kp tk (da_cons (dx_var 0) (da_cons (dx_var 3) da_nil))))) da_nil))) (blk_ok N_law_machine ["_law_row_here", "_law_prime", "_law_many"] (by decide +kernel) (.cons (by first | exact .inl rfl | exact .inr rfl) (.cons (by first | exact .inl rfl | exact .inr rfl) (.cons (by first | exact .inl rfl | exact .inr rfl) .nil)))) (fun _ => (dg_name 7 sc_law_machine.nd)) (fun _ => dts_nil) (fun _ => (dx_call F_law_row (hr.mono (by decide)) rfl t.m_law_row t.d_law_row.kp takesN (da_cons (dx_var 0) (da_cons (dx_var 4) (da_cons (dx_var 5) da_nil))))) (by decide))
 (dss_one (ds_ret (DE.be (dx_tup (da_cons (dx_var 4) (da_cons (dx_call F_law_stir (hr.mono (by decide)) rfl t.m_law_stir t.d_law_stir.kp tk (da_cons (dx_var 0) (da_cons (dx_var 4) (da_cons (dx_var 5) da_nil)))) (da_cons (dx_tupleOf rfl t.z_tuple (ba_cons (bx_own 6) ba_nil)) (da_cons (dx_tupleOf rfl t.z_tuple (ba_cons (bx_own 8) ba_nil)) da_nil)))))))))))
theorem fn_law_machine {P : Program} {wd : World} {K : PySem.W.Frag} {mg : Str → Option Value} {base : Heap} {T : Tbl} {a : Ad} (t : Txt K mg a) (F_law_stir : FnN P wd K mg base T 2 a.f_law_stir 3 [] (m_law_stir a)) (F_law_taken : FnN P wd K mg base T 1 a.f_law_taken 2 [] (m_law_taken a)) (F_law_row : FnN P wd K mg base T 2 a.f_law_row 3 [] (m_law_row a)) (F_law_pick : FnN P wd K mg base T 2 a.f_law_pick 2 [] (m_law_pick a)) : FnN P wd K mg base T 3 a.f_law_machine 4 [] (m_law_machine a) := fnAt0 t.d_law_machine sc_law_machine (bd_law_machine t F_law_stir F_law_taken F_law_row F_law_pick) (fun _ _ _ _ _ _ us hl => match us, hl with | [_, _, _, _], _ => rfl)
theorem bd_law_met {P : Program} {wd : World} {K : PySem.W.Frag} {mg : Str → Option Value} {base : Heap} {T : Tbl} {a : Ad} (t : Txt K mg a) : BodyD P wd K mg base T "_law_met" s_law_met a.f_law_met a.c_law_met N_law_met 0 (g_law_met a) := by
 intro A outer s H E hr tk
 exact (dss_one (ds_ret (DE.be (dx_mod (DE.be (dx_sum rfl rfl t.z_sum (ba_cons (DE.be (dx_rel (se_lc (own := [("_law_left", 3), ("_law_right", 4)]) rfl sc_law_met.nd (bi_zip rfl t.z_zip (ba_cons (DE.be (dx_var 1)) (ba_cons (DE.be (dx_var 2)) ba_nil))) (blk_ok N_law_met [] (by decide +kernel) .nil) (fun _ => (dg_tup rfl (dgs_cons (dg_name 3 sc_law_met.nd) (dgs_cons (dg_name 4 sc_law_met.nd) dgs_nil)))) (fun _ => dts_nil) (fun _ => (dx_mul (DE.be (dx_var 3)) (DE.be (dx_var 4)))) (by decide)))) ba_nil))) (DE.be (dx_var 0))))))
theorem fn_law_met {P : Program} {wd : World} {K : PySem.W.Frag} {mg : Str → Option Value} {base : Heap} {T : Tbl} {a : Ad} (t : Txt K mg a) : FnN P wd K mg base T 1 a.f_law_met 3 [] (m_law_met a) := fnAt0 t.d_law_met sc_law_met (bd_law_met t ) (fun _ _ _ _ _ _ us hl => match us, hl with | [_, _, _], _ => rfl)
theorem bd_law_added {P : Program} {wd : World} {K : PySem.W.Frag} {mg : Str → Option Value} {base : Heap} {T : Tbl} {a : Ad} (t : Txt K mg a) : BodyD P wd K mg base T "_law_added" s_law_added a.f_law_added a.c_law_added N_law_added 0 (g_law_added a) := by
 intro A outer s H E hr tk
 exact (dss_one (ds_ret (DE.be (dx_tupleOf rfl t.z_tuple (ba_cons (DE.be (dx_rel (se_lc (own := [("_law_left", 4), ("_law_right", 5)]) rfl sc_law_added.nd (bi_zip rfl t.z_zip (ba_cons (DE.be (dx_var 1)) (ba_cons (DE.be (dx_var 2)) ba_nil))) (blk_ok N_law_added ["_law_factor", "_law_prime"] (by decide +kernel) (.cons (by first | exact .inl rfl | exact .inr rfl) (.cons (by first | exact .inl rfl | exact .inr rfl) .nil))) (fun _ => (dg_tup rfl (dgs_cons (dg_name 4 sc_law_added.nd) (dgs_cons (dg_name 5 sc_law_added.nd) dgs_nil)))) (fun _ => dts_nil) (fun _ => (dx_mod (DE.be (dx_add (DE.be (dx_var 4)) (DE.be (dx_mul (DE.be (dx_var 3)) (DE.be (dx_var 5)))))) (DE.be (dx_var 0)))) (by decide)))) ba_nil)))))
theorem fn_law_added {P : Program} {wd : World} {K : PySem.W.Frag} {mg : Str → Option Value} {base : Heap} {T : Tbl} {a : Ad} (t : Txt K mg a) : FnN P wd K mg base T 1 a.f_law_added 4 [] (m_law_added a) := fnAt0 t.d_law_added sc_law_added (bd_law_added t ) (fun _ _ _ _ _ _ us hl => match us, hl with | [_, _, _, _], _ => rfl)
theorem bd_law_stirred {P : Program} {wd : World} {K : PySem.W.Frag} {mg : Str → Option Value} {base : Heap} {T : Tbl} {a : Ad} (t : Txt K mg a) (F_law_met : FnN P wd K mg base T 1 a.f_law_met 3 [] (m_law_met a)) : BodyD P wd K mg base T "_law_stirred" s_law_stirred a.f_law_stirred a.c_law_stirred N_law_stirred 1 (g_law_stirred a) := by
 intro A outer s H E hr tk
 exact (dss_one (ds_ret (DE.be (dx_tupleOf rfl t.z_tuple (ba_cons (DE.be (dx_rel (se_lc (own := [("_law_line", 2)]) rfl sc_law_stirred.nd (bi_seq (DE.be (dx_ix (DE.be (dx_var 0)) (DE.be dx_int)))) (blk_ok N_law_stirred ["_law_machine_here", "_law_memory"] (by decide +kernel) (.cons (by first | exact .inl rfl | exact .inr rfl) (.cons (by first | exact .inl rfl | exact .inr rfl) .nil))) (fun _ => (dg_name 2 sc_law_stirred.nd)) (fun _ => dts_nil) (fun _ => (dx_call F_law_met (hr.mono (by decide)) rfl t.m_law_met t.d_law_met.kp takesN (da_cons (dx_ix (DE.be (dx_var 0)) (DE.be dx_int)) (da_cons (dx_var 2) (da_cons (dx_var 1) da_nil))))) (by decide)))) ba_nil)))))
theorem fn_law_stirred {P : Program} {wd : World} {K : PySem.W.Frag} {mg : Str → Option Value} {base : Heap} {T : Tbl} {a : Ad} (t : Txt K mg a) (F_law_met : FnN P wd K mg base T 1 a.f_law_met 3 [] (m_law_met a)) : FnN P wd K mg base T 2 a.f_law_stirred 2 [] (m_law_stirred a) := fnAt0 t.d_law_stirred sc_law_stirred (bd_law_stirred t F_law_met) (fun _ _ _ _ _ _ us hl => match us, hl with | [_, _], _ => rfl)
theorem bd_law_span {P : Program} {wd : World} {K : PySem.W.Frag} {mg : Str → Option Value} {base : Heap} {T : Tbl} {a : Ad} (t : Txt K mg a) (F_law_added : FnN P wd K mg base T 1 a.f_law_added 4 [] (m_law_added a)) : BodyD P wd K mg base T "_law_span" s_law_span a.f_law_span a.c_law_span N_law_span 1 (g_law_span a) := by
 intro A outer s H E hr tk
 exact (dss_cons
 (ds_set (i := 3) (se_p (dx_lst (da_cons (dx_rep (DE.be (dx_tup (da_cons dx_int da_nil))) (DE.be (dx_var 2))) da_nil))) sc_law_span.nd)
 (dss_cons
 (ds_for (L2.passes_of rfl) rfl (di_seq (dx_var 1)) (dg_name 4 sc_law_span.nd) (dss_one (ds_if (dt_cmp (cd_notIn (un1 hr)) (DE.be (dx_var 4)) (DE.be (dx_var 3))) (dss_cons
 (ds_set (i := 5) (se_p (dx_lst da_nil)) sc_law_span.nd)
 (dss_cons
 (ds_for (L2.passes_of rfl) rfl (di_rng1 rfl t.z_range (da_cons (dx_var 0) da_nil)) (dg_name 6 sc_law_span.nd) (dss_one (ds_set (i := 5) (se_p (dx_add (DE.be (dx_var 5)) (DE.be (dx_rel (se_lc (own := [("_law_own", 7)]) rfl sc_law_span.nd (bi_seq (DE.be (dx_var 3))) (blk_ok N_law_span ["_law_prime", "_law_one", "_law_factor"] (by decide +kernel) (.cons (by first | exact .inl rfl | exact .inr rfl) (.cons (by first | exact .inl rfl | exact .inr rfl) (.cons (by first | exact .inl rfl | exact .inr rfl) .nil)))) (fun _ => (dg_name 7 sc_law_span.nd)) (fun _ => dts_nil) (fun _ => (dx_call F_law_added (hr.mono (by decide)) rfl t.m_law_added t.d_law_added.kp takesN (da_cons (dx_var 0) (da_cons (dx_var 7) (da_cons (dx_var 4) (da_cons (dx_var 6) da_nil)))))) (by decide)))))) sc_law_span.nd)))
 (dss_one (ds_set (i := 3) (se_p (dx_var 5)) sc_law_span.nd)))) dss_nil)))
 (dss_one (ds_ret (DE.be (dx_rel (se_sort0 rfl t.z_sorted (ba_cons (DE.be (dx_var 3)) ba_nil))))))))
theorem fn_law_span {P : Program} {wd : World} {K : PySem.W.Frag} {mg : Str → Option Value} {base : Heap} {T : Tbl} {a : Ad} (t : Txt K mg a) (F_law_added : FnN P wd K mg base T 1 a.f_law_added 4 [] (m_law_added a)) : FnN P wd K mg base T 2 a.f_law_span 3 [] (m_law_span a) := fnAt0 t.d_law_span sc_law_span (bd_law_span t F_law_added) (fun _ _ _ _ _ _ us hl => match us, hl with | [_, _, _], _ => rfl)
theorem bd_law_lead {P : Program} {wd : World} {K : PySem.W.Frag} {mg : Str → Option Value} {base : Heap} {T : Tbl} {a : Ad} (t : Txt K mg a) : BodyD P wd K mg base T "_law_lead" s_law_lead a.f_law_lead a.c_law_lead N_law_lead 0 (g_law_lead a) := by
 intro A outer s H E hr tk
 exact (dss_one (ds_ret (DE.be (dx_ix (DE.be (dx_rel (se_lc (own := [("_law_place", 1), ("_law_number", 2)]) rfl sc_law_lead.nd (bi_enum rfl t.z_enumerate (ba_cons (DE.be (dx_var 0)) ba_nil)) (blk_ok N_law_lead [] (by decide +kernel) .nil) (fun _ => (dg_tup rfl (dgs_cons (dg_name 1 sc_law_lead.nd) (dgs_cons (dg_name 2 sc_law_lead.nd) dgs_nil)))) (fun _ => (dts_one (dt_cmp (cd_ne (un0 hr)) (DE.be (dx_var 2)) (DE.be dx_int)))) (fun _ => (dx_var 1)) (by decide)))) (DE.be dx_int)))))
theorem fn_law_lead {P : Program} {wd : World} {K : PySem.W.Frag} {mg : Str → Option Value} {base : Heap} {T : Tbl} {a : Ad} (t : Txt K mg a) : FnN P wd K mg base T 1 a.f_law_lead 1 [] (m_law_lead a) := fnAt0 t.d_law_lead sc_law_lead (bd_law_lead t ) (fun _ _ _ _ _ _ us hl => match us, hl with | [_], _ => rfl)
theorem bd_law_stairs {P : Program} {wd : World} {K : PySem.W.Frag} {mg : Str → Option Value} {base : Heap} {T : Tbl} {a : Ad} (t : Txt K mg a) (F_law_lead : FnN P wd K mg base T 1 a.f_law_lead 1 [] (m_law_lead a)) : BodyD P wd K mg base T "_law_stairs" s_law_stairs a.f_law_stairs a.c_law_stairs N_law_stairs 1 (g_law_stairs a) := by
 intro A outer s H E hr tk
 exact (dss_cons
 (ds_setLc (own := [("_law_one", 3)]) rfl sc_law_stairs.nd (bi_seq (DE.be (dx_var 1))) (blk_ok N_law_stairs [] (by decide +kernel) .nil) (fun _ => (dg_name 3 sc_law_stairs.nd)) (fun _ => (dts_one (DW.dt (dw_and (dt_cmp (cd_gt) (DE.be (dx_max rfl (un2 hr) rfl t.z_max (ba_cons (DE.be (dx_var 3)) ba_nil))) (DE.be dx_int)) (dw_and1 (dt_cmp (cd_eq (un0 hr)) (DE.be (dx_ix (DE.be (dx_var 3)) (DE.be (dx_call F_law_lead (hr.mono (by decide)) rfl t.m_law_lead t.d_law_lead.kp takesN (da_cons (dx_var 3) da_nil))))) (DE.be dx_int))))))) (fun _ => (dx_var 3)) (by decide))
 (dss_cons
 (ds_set (i := 4) (se_sortSet rfl rfl t.z_sorted rfl t.z_set (ba_cons (DE.be (dx_rel (se_lc (own := [("_law_one", 3)]) rfl sc_law_stairs.nd (bi_seq (bx_own 2)) (blk_ok N_law_stairs [] (by decide +kernel) .nil) (fun _ => (dg_name 3 sc_law_stairs.nd)) (fun _ => dts_nil) (fun _ => (dx_call F_law_lead (hr.mono (by decide)) rfl t.m_law_lead t.d_law_lead.kp takesN (da_cons (dx_var 3) da_nil))) (by decide)))) ba_nil)) sc_law_stairs.nd)
 (dss_cons
 (ds_set (i := 5) (se_p (dx_lst da_nil)) sc_law_stairs.nd)
 (dss_cons
 (ds_rel 4 (ds_for (L2.passes_of rfl) rfl (di_seq (dx_var 4)) (dg_name 6 sc_law_stairs.nd) (dss_cons
 (ds_setLc (own := [("_law_one", 3)]) rfl sc_law_stairs.nd (bi_seq (bx_own 2)) (blk_ok N_law_stairs ["_law_place"] (by decide +kernel) (.cons (by first | exact .inl rfl | exact .inr rfl) .nil)) (fun _ => (dg_name 3 sc_law_stairs.nd)) (fun _ => (dts_one (dt_cmp (cd_eq (un0 hr)) (DE.be (dx_call F_law_lead (hr.mono (by decide)) rfl t.m_law_lead t.d_law_lead.kp takesN (da_cons (dx_var 3) da_nil))) (DE.be (dx_var 6))))) (fun _ => (dx_var 3)) (by decide))
 (dss_one (ds_set (i := 5) (se_p (dx_add (DE.be (dx_var 5)) (DE.be (dx_rel (se_lc (own := [("_law_one", 3)]) rfl sc_law_stairs.nd (bi_seq (bx_own 7)) (blk_ok N_law_stairs ["_law_leads", "_law_place"] (by decide +kernel) (.cons (by first | exact .inl rfl | exact .inr rfl) (.cons (by first | exact .inl rfl | exact .inr rfl) .nil))) (fun _ => (dg_name 3 sc_law_stairs.nd)) (fun _ => (dts_one (dt_cmp (cd_eq (un0 hr)) (DE.be (dx_rel (se_lc (own := [("_law_at", 8)]) rfl sc_law_stairs.nd (bi_seq (bx_own 4)) (blk_ok N_law_stairs ["_law_place", "_law_one"] (by decide +kernel) (.cons (by first | exact .inl rfl | exact .inr rfl) (.cons (by first | exact .inl rfl | exact .inr rfl) .nil))) (fun _ => (dg_name 8 sc_law_stairs.nd)) (fun _ => (dts_one (DW.dt (dw_and (dt_cmp (cd_ne (un0 hr)) (DE.be (dx_var 8)) (DE.be (dx_var 6))) (dw_and1 (dt_cmp (cd_ne (un0 hr)) (DE.be (dx_ix (DE.be (dx_var 3)) (DE.be (dx_var 8)))) (DE.be dx_int))))))) (fun _ => dx_int) (by decide)))) (DE.be (dx_lst da_nil))))) (fun _ => (dx_var 3)) (by decide)))))) sc_law_stairs.nd)))))
 (dss_one (ds_ret (DE.be (dx_tupleOf rfl t.z_tuple (ba_cons (DE.be (dx_var 5)) ba_nil)))))))))
theorem fn_law_stairs {P : Program} {wd : World} {K : PySem.W.Frag} {mg : Str → Option Value} {base : Heap} {T : Tbl} {a : Ad} (t : Txt K mg a) (F_law_lead : FnN P wd K mg base T 1 a.f_law_lead 1 [] (m_law_lead a)) : FnN P wd K mg base T 2 a.f_law_stairs 2 [] (m_law_stairs a) := fnAt0 t.d_law_stairs sc_law_stairs (bd_law_stairs t F_law_lead) (fun _ _ _ _ _ _ us hl => match us, hl with | [_, _], _ => rfl)
theorem bd_law_rows {P : Program} {wd : World} {K : PySem.W.Frag} {mg : Str → Option Value} {base : Heap} {T : Tbl} {a : Ad} (t : Txt K mg a) : BodyD P wd K mg base T "_law_rows" s_law_rows a.f_law_rows a.c_law_rows N_law_rows 0 (g_law_rows a) := by
 intro A outer s H E hr tk
 exact (dss_cons
 (ds_set (i := 2) (se_p (dx_lst (da_cons (dx_tup da_nil) da_nil))) sc_law_rows.nd)
 (dss_cons
 (ds_for (L2.passes_of rfl) rfl (di_rng1 rfl t.z_range (da_cons (dx_var 1) da_nil)) (dg_name 3 sc_law_rows.nd) (dss_cons
 (ds_set (i := 4) (se_p (dx_lst da_nil)) sc_law_rows.nd)
 (dss_cons
 (ds_for (L2.passes_of rfl) rfl (di_seq (dx_var 2)) (dg_name 5 sc_law_rows.nd) (dss_one (ds_set (i := 4) (se_p (dx_add (DE.be (dx_var 4)) (DE.be (dx_rel (se_lc (own := [("_law_number", 6)]) rfl sc_law_rows.nd (DI.bi (di_rng1 rfl t.z_range (da_cons (dx_var 0) da_nil))) (blk_ok N_law_rows ["_law_one"] (by decide +kernel) (.cons (by first | exact .inl rfl | exact .inr rfl) .nil)) (fun _ => (dg_name 6 sc_law_rows.nd)) (fun _ => dts_nil) (fun _ => (dx_add (DE.be (dx_var 5)) (DE.be (dx_tup (da_cons (dx_var 6) da_nil))))) (by decide)))))) sc_law_rows.nd)))
 (dss_one (ds_set (i := 2) (se_p (dx_var 4)) sc_law_rows.nd)))))
 (dss_one (ds_ret (DE.be (dx_var 2))))))
theorem fn_law_rows {P : Program} {wd : World} {K : PySem.W.Frag} {mg : Str → Option Value} {base : Heap} {T : Tbl} {a : Ad} (t : Txt K mg a) : FnN P wd K mg base T 1 a.f_law_rows 2 [] (m_law_rows a) := fnAt0 t.d_law_rows sc_law_rows (bd_law_rows t ) (fun _ _ _ _ _ _ us hl => match us, hl with | [_, _], _ => rfl)
theorem bd_law_reached {P : Program} {wd : World} {K : PySem.W.Frag} {mg : Str → Option Value} {base : Heap} {T : Tbl} {a : Ad} (t : Txt K mg a) (F_law_span : FnN P wd K mg base T 2 a.f_law_span 3 [] (m_law_span a)) (F_law_stirred : FnN P wd K mg base T 2 a.f_law_stirred 2 [] (m_law_stirred a)) : BodyD P wd K mg base T "_law_reached" s_law_reached a.f_law_reached a.c_law_reached N_law_reached 2 (g_law_reached a) := by
 intro A outer s H E hr tk
 exact (dss_cons
 (ds_par2 (i := 1) (j := 2) rfl sc_law_reached.nd (sa_cons (se_lst da_nil) (sa_cons (se_p (dx_lst (da_cons (dx_rep (DE.be (dx_tup (da_cons dx_int da_nil))) (DE.be (dx_len rfl t.z_len (ba_cons (DE.be (dx_ix (DE.be (dx_var 0)) (DE.be dx_int))) ba_nil)))) da_nil))) sa_nil)))
 (dss_cons
 (ds_for (L2.passes_of rfl) rfl (di_seq (dx_ix (DE.be (dx_var 0)) (DE.be dx_int))) (dg_name 3 sc_law_reached.nd) (dss_cons
 (ds_set (i := 4) (se_p (dx_var 3)) sc_law_reached.nd)
 (dss_one (ds_for (L2.passes_of rfl) rfl (di_rng1 rfl t.z_range (da_cons dx_int da_nil)) (dg_name 5 sc_law_reached.nd) (dss_cons
 (ds_appO 1 (dx_var 4))
 (dss_one (ds_set (i := 4) (se_p (dx_call F_law_stirred (hr.mono (by decide)) rfl t.m_law_stirred t.d_law_stirred.kp tk (da_cons (dx_var 0) (da_cons (dx_var 4) da_nil)))) sc_law_reached.nd)))))))
 (dss_one (ds_rel 1 (ds_ret (DE.be (dx_call F_law_span (hr.mono (by decide)) rfl t.m_law_span t.d_law_span.kp tk (da_cons (dx_ix (DE.be (dx_var 0)) (DE.be dx_int)) (da_cons (dx_var 1) (da_cons (dx_len rfl t.z_len (ba_cons (DE.be (dx_ix (DE.be (dx_var 0)) (DE.be dx_int))) ba_nil)) da_nil))))))))))
theorem fn_law_reached {P : Program} {wd : World} {K : PySem.W.Frag} {mg : Str → Option Value} {base : Heap} {T : Tbl} {a : Ad} (t : Txt K mg a) (F_law_span : FnN P wd K mg base T 2 a.f_law_span 3 [] (m_law_span a)) (F_law_stirred : FnN P wd K mg base T 2 a.f_law_stirred 2 [] (m_law_stirred a)) : FnN P wd K mg base T 3 a.f_law_reached 1 [] (m_law_reached a) := fnAt0 t.d_law_reached sc_law_reached (bd_law_reached t F_law_span F_law_stirred) (fun _ _ _ _ _ _ us hl => match us, hl with | [_], _ => rfl)
theorem bd_law_unseen {P : Program} {wd : World} {K : PySem.W.Frag} {mg : Str → Option Value} {base : Heap} {T : Tbl} {a : Ad} (t : Txt K mg a) (F_law_rows : FnN P wd K mg base T 1 a.f_law_rows 2 [] (m_law_rows a)) (F_law_stirred : FnN P wd K mg base T 2 a.f_law_stirred 2 [] (m_law_stirred a)) (F_law_met : FnN P wd K mg base T 1 a.f_law_met 3 [] (m_law_met a)) : BodyD P wd K mg base T "_law_unseen" s_law_unseen a.f_law_unseen a.c_law_unseen N_law_unseen 2 (g_law_unseen a) := by
 intro A outer s H E hr tk
 exact (dss_cons
 (ds_set (i := 1) (se_lst da_nil) sc_law_unseen.nd)
 (dss_cons
 (ds_for (L2.passes_of rfl) rfl (di_seq (dx_call F_law_rows (hr.mono (by decide)) rfl t.m_law_rows t.d_law_rows.kp tk (da_cons (dx_ix (DE.be (dx_var 0)) (DE.be dx_int)) (da_cons (dx_len rfl t.z_len (ba_cons (DE.be (dx_ix (DE.be (dx_var 0)) (DE.be dx_int))) ba_nil)) da_nil)))) (dg_name 2 sc_law_unseen.nd) (dss_cons
 (ds_parT (is := [3, 4]) rfl sc_law_unseen.nd (sa_cons (se_p (dx_lst da_nil)) (sa_cons (se_p (dx_var 2)) sa_nil)) (.cons (i := 3) rfl (by first | exact .inl rfl | exact .inr rfl) (by first | exact .inl rfl | exact .inr rfl) rfl (.cons (i := 4) rfl (by first | exact .inl rfl | exact .inr rfl) (by first | exact .inl rfl | exact .inr rfl) rfl .nil)))
 (dss_cons
 (ds_for (L2.passes_of rfl) rfl (di_rng1 rfl t.z_range (da_cons dx_int da_nil)) (dg_name 5 sc_law_unseen.nd) (dss_cons
 (ds_set (i := 3) (se_p (dx_add (DE.be (dx_var 3)) (DE.be (dx_rel (se_lc (own := [("_law_sight", 6)]) rfl sc_law_unseen.nd (bi_seq (DE.be (dx_ix (DE.be (dx_var 0)) (DE.be dx_int)))) (blk_ok N_law_unseen ["_law_machine_here", "_law_one"] (by decide +kernel) (.cons (by first | exact .inl rfl | exact .inr rfl) (.cons (by first | exact .inl rfl | exact .inr rfl) .nil))) (fun _ => (dg_name 6 sc_law_unseen.nd)) (fun _ => dts_nil) (fun _ => (dx_call F_law_met (hr.mono (by decide)) rfl t.m_law_met t.d_law_met.kp takesN (da_cons (dx_ix (DE.be (dx_var 0)) (DE.be dx_int)) (da_cons (dx_var 6) (da_cons (dx_var 4) da_nil))))) (by decide)))))) sc_law_unseen.nd)
 (dss_one (ds_set (i := 4) (se_p (dx_call F_law_stirred (hr.mono (by decide)) rfl t.m_law_stirred t.d_law_stirred.kp tk (da_cons (dx_var 0) (da_cons (dx_var 4) da_nil)))) sc_law_unseen.nd))))
 (dss_one (ds_if (dt_cmp (cd_eq (un0 hr)) (DE.be (dx_max rfl (un2 hr) rfl t.z_max (ba_cons (DE.be (dx_var 3)) ba_nil))) (DE.be dx_int)) (dss_one (ds_appO 1 (dx_var 2))) dss_nil)))))
 (dss_one (ds_ret (bx_own 1)))))
theorem fn_law_unseen {P : Program} {wd : World} {K : PySem.W.Frag} {mg : Str → Option Value} {base : Heap} {T : Tbl} {a : Ad} (t : Txt K mg a) (F_law_rows : FnN P wd K mg base T 1 a.f_law_rows 2 [] (m_law_rows a)) (F_law_stirred : FnN P wd K mg base T 2 a.f_law_stirred 2 [] (m_law_stirred a)) (F_law_met : FnN P wd K mg base T 1 a.f_law_met 3 [] (m_law_met a)) : FnN P wd K mg base T 3 a.f_law_unseen 1 [] (m_law_unseen a) := fnAt0 t.d_law_unseen sc_law_unseen (bd_law_unseen t F_law_rows F_law_stirred F_law_met) (fun _ _ _ _ _ _ us hl => match us, hl with | [_], _ => rfl)
theorem bd_law_size {P : Program} {wd : World} {K : PySem.W.Frag} {mg : Str → Option Value} {base : Heap} {T : Tbl} {a : Ad} (t : Txt K mg a) : BodyD P wd K mg base T "_law_size" s_law_size a.f_law_size a.c_law_size N_law_size 0 (g_law_size a) := by
 intro A outer s H E hr tk
 exact (dss_cons
 (ds_set (i := 2) (se_p dx_int) sc_law_size.nd)
 (dss_cons
 (ds_for (L2.passes_of rfl) rfl (di_rng1 rfl t.z_range (da_cons dx_int da_nil)) (dg_name 3 sc_law_size.nd) (dss_one (ds_if (dt_cmp (cd_gt) (DE.be (dx_var 1)) (DE.be dx_int)) (dss_one (ds_par2 (i := 1) (j := 2) rfl sc_law_size.nd (sa_cons (se_p (dx_fdiv (DE.be (dx_var 1)) (DE.be (dx_var 0)))) (sa_cons (se_p (dx_add (DE.be (dx_var 2)) (DE.be dx_int))) sa_nil)))) dss_nil)))
 (dss_one (ds_ret (DE.be (dx_var 2))))))
theorem fn_law_size {P : Program} {wd : World} {K : PySem.W.Frag} {mg : Str → Option Value} {base : Heap} {T : Tbl} {a : Ad} (t : Txt K mg a) : FnN P wd K mg base T 1 a.f_law_size 2 [] (m_law_size a) := fnAt0 t.d_law_size sc_law_size (bd_law_size t ) (fun _ _ _ _ _ _ us hl => match us, hl with | [_, _], _ => rfl)
theorem bd_law_deed {P : Program} {wd : World} {K : PySem.W.Frag} {mg : Str → Option Value} {base : Heap} {T : Tbl} {a : Ad} (t : Txt K mg a) (F_law_stirred : FnN P wd K mg base T 2 a.f_law_stirred 2 [] (m_law_stirred a)) (F_law_added : FnN P wd K mg base T 1 a.f_law_added 4 [] (m_law_added a)) (F_law_met : FnN P wd K mg base T 1 a.f_law_met 3 [] (m_law_met a)) : BodyD P wd K mg base T "_law_deed" s_law_deed a.f_law_deed a.c_law_deed N_law_deed 2 (g_law_deed a) := by
 intro A outer s H E hr tk
 exact (dss_cons
 (ds_par3 (i := 4) (j := 5) (k := 6) rfl sc_law_deed.nd (sa_cons (se_p (dx_ix (DE.be (dx_var 0)) (DE.be dx_int))) (sa_cons (se_p (dx_ix (DE.be (dx_var 3)) (DE.be dx_int))) (sa_cons (se_p (dx_ix (DE.be (dx_var 3)) (DE.be (dx_neg dx_int)))) sa_nil))))
 (dss_cons
 (ds_if (dt_cmp (cd_in (un1 hr)) (DE.be (dx_var 5)) (DE.be (dx_lst (da_cons dx_str (da_cons dx_str (da_cons dx_str da_nil)))))) (dss_cons
 (ds_set (i := 7) (se_p (dx_call F_law_met (hr.mono (by decide)) rfl t.m_law_met t.d_law_met.kp tk (da_cons (dx_var 4) (da_cons (dx_ix (DE.be (dx_ix (DE.be (dx_var 0)) (DE.be dx_int))) (DE.be (dx_var 6))) (da_cons (dx_var 1) da_nil))))) sc_law_deed.nd)
 (dss_one (ds_set (i := 2) (se_p (dx_mod (DE.be (dx_dict (un2 hr) (dps_cons (dx_var 7) (dps_cons (dx_add (DE.be (dx_var 2)) (DE.be (dx_var 7))) (dps_cons (dx_sub (DE.be (dx_var 2)) (DE.be (dx_var 7))) dps_nil))) (dx_var 5))) (DE.be (dx_var 4)))) sc_law_deed.nd))) dss_nil)
 (dss_cons
 (ds_if (dt_cmp (cd_in (un1 hr)) (DE.be (dx_var 5)) (DE.be (dx_lst (da_cons dx_str (da_cons dx_str da_nil))))) (dss_one (ds_set (i := 1) (se_p (dx_call F_law_added (hr.mono (by decide)) rfl t.m_law_added t.d_law_added.kp tk (da_cons (dx_var 4) (da_cons (dx_var 1) (da_cons (dx_ix (DE.be (dx_ix (DE.be (dx_var 0)) (DE.be dx_int))) (DE.be (dx_var 6))) (da_cons (dx_ifExp (dt_cmp (cd_eq (un0 hr)) (DE.be (dx_var 5)) (DE.be dx_str)) (dx_var 2) (dx_sub (DE.be dx_int) (DE.be (dx_var 2)))) da_nil)))))) sc_law_deed.nd)) dss_nil)
 (dss_cons
 (ds_if (dt_cmp (cd_eq (un0 hr)) (DE.be (dx_var 5)) (DE.be dx_str)) (dss_one (ds_set (i := 2) (se_p (dx_var 6)) sc_law_deed.nd)) dss_nil)
 (dss_one (ds_ret (DE.be (dx_tup (da_cons (dx_call F_law_stirred (hr.mono (by decide)) rfl t.m_law_stirred t.d_law_stirred.kp tk (da_cons (dx_var 0) (da_cons (dx_var 1) da_nil))) (da_cons (dx_var 2) da_nil))))))))))
theorem fn_law_deed {P : Program} {wd : World} {K : PySem.W.Frag} {mg : Str → Option Value} {base : Heap} {T : Tbl} {a : Ad} (t : Txt K mg a) (F_law_stirred : FnN P wd K mg base T 2 a.f_law_stirred 2 [] (m_law_stirred a)) (F_law_added : FnN P wd K mg base T 1 a.f_law_added 4 [] (m_law_added a)) (F_law_met : FnN P wd K mg base T 1 a.f_law_met 3 [] (m_law_met a)) : FnN P wd K mg base T 3 a.f_law_deed 4 [] (m_law_deed a) := fnAt0 t.d_law_deed sc_law_deed (bd_law_deed t F_law_stirred F_law_added F_law_met) (fun _ _ _ _ _ _ us hl => match us, hl with | [_, _, _, _], _ => rfl)

end K03

set_option Elab.async false
set_option linter.all false
set_option maxRecDepth 100000
set_option maxHeartbeats 1000000
namespace K03
open PySem PySem.Spec L2 DL LA
section
variable {p : Nat} [hp : LA.Pr p] {w w0 : Om} (a : Ad) {h : Addr} {E : Exn → Sl → Om → Prop}
theorem sz_small {n : Nat} (h : n ≤ 1000) : n ≤ sizeLine := Nat.le_trans h (by decide)
theorem is_number_int (i lo hi : Int) : m_is_number a [.int i, .int lo, .int hi] w = .ok (.bl (decide (lo ≤ i) && decide (i ≤ hi))) w := by
  simp [m_is_number, g_is_number]
theorem is_number_non (lo hi : Int) : m_is_number a [.non, .int lo, .int hi] w = .ok (.bl false) w := by simp [m_is_number, g_is_number]
theorem is_number_bl (b : Bool) (lo hi : Int) : m_is_number a [.bl b, .int lo, .int hi] w = .ok (.bl false) w := by simp [m_is_number, g_is_number]
theorem is_number_str (b : Str) (lo hi : Int) : m_is_number a [.str b, .int lo, .int hi] w = .ok (.bl false) w := by simp [m_is_number, g_is_number]
theorem is_number_tup (b : List D) (lo hi : Int) : m_is_number a [.tup b, .int lo, .int hi] w = .ok (.bl false) w := by simp [m_is_number, g_is_number]
theorem is_number_lst (b : List D) (lo hi : Int) : m_is_number a [.lst b, .int lo, .int hi] w = .ok (.bl false) w := by simp [m_is_number, g_is_number]
theorem met_ev (x y : Vc p) (hx : x.length ≤ 1000) : m_met a [.int p, row x, row y] w = .ok (fd (dot x y)) w := by
  have hl : min x.length y.length ≤ sizeLine := sz_small (by omega)
  simp [m_met, g_met, zipD_map, hl]
  rw [lcGo_E fun q : Fin p × Fin p => .int ((q.1.val : Int) * (q.2.val : Int))]
  · rw [show (fun q : Fin p × Fin p => D.int ((q.1.val : Int) * (q.2.val : Int))) = D.int ∘ fun q => (q.1.val : Int) * (q.2.val : Int) from rfl, ← List.map_map]
    simp only [Out.bind_ok, relK_o, ev_sum]
    simp [p_pos, sum_dot]
  · rintro ⟨u, v⟩ _
    refine ⟨_, rfl, rfl, ?_⟩
    simp
    rw [ev_mul]
    have := fin_lt u
    omega
theorem added_ev (x y : Vc p) (f : Int) (hx : x.length ≤ 1000) : m_added a [.int p, row x, row y, .int f] w = .ok (row (add x y (fi p f))) w := by
  have hl : min x.length y.length ≤ sizeLine := sz_small (by omega)
  simp [m_added, g_added, zipD_map, hl]
  rw [lcGo_E fun q : Fin p × Fin p => fd (q.1 + fi p f * q.2)]
  · simp [added_list]
  · rintro ⟨u, v⟩ _
    refine ⟨_, rfl, rfl, ?_⟩
    simp
    rw [ev_mul]
    · simp [p_pos]
      rw [val_fi, fi_add, fi_mul, fi_of, fi_of]
    · have := fin_lt v
      omega
theorem scaled_ev (x : Vc p) (f : Int) (hx : x.length ≤ 1000) : m_scaled a [.int p, row x, .int f] w = .ok (row (scl x (fi p f))) w := by
  have hl : x.length ≤ sizeLine := sz_small (by omega)
  simp [m_scaled, g_scaled, hl]
  rw [lcGo_E fun q : Fin p => fd (fi p f * q)]
  · simp [scl]
    rw [← tup_row', List.map_map]; rfl
  · intro u _
    refine ⟨_, rfl, rfl, ?_⟩
    simp
    rw [ev_mul]
    · simp [p_pos]
      rw [val_fi, fi_mul, fi_of]
    · have := fin_lt u
      omega
theorem inv_one {f : Fin p} (h : f ≠ 0) : ((List.range (p - 1)).filter fun i => decide ((1 + (i : Nat) : Int) * (f.val : Int) % p = 1)).map (fun i => (1 + (i : Nat) : Int)) = [((inv f).val : Int)] := by
  revert f
  refine pr_elim (C := fun p hp => ∀ {f : Fin p}, f ≠ 0 → ((List.range (p - 1)).filter fun i => decide ((1 + (i : Nat) : Int) * (f.val : Int) % p = 1)).map (fun i => (1 + (i : Nat) : Int)) = [((inv f).val : Int)]) hp ?_ ?_ ?_ ?_ <;> decide +kernel
theorem inverse_ev {f : Fin p} (h : f ≠ 0) : m_inverse a [.int p, fd f] w = .ok (fd (inv f)) w := by
  have h7 := p_le7 (p := p)
  have h2 := pr_gt p
  simp [m_inverse, g_inverse, rngD]
  rw [if_pos (by omega)]
  rw [if_pos (Nat.le_succ_of_le (sz_small (by omega)))]
  rw [lcGo_Ef (E := fun i : Nat => D.int (1 + (i : Int))) (fun i : Nat => decide ((1 + (i : Nat) : Int) * (f.val : Int) % p = 1)) fun i : Nat => .int (1 + (i : Nat) : Int)]
  · have q := inv_one h
    rw [show (fun i : Nat => D.int (1 + (i : Nat) : Int)) = D.int ∘ fun i : Nat => (1 + (i : Nat) : Int) from rfl, ← List.map_map, q]
    simp
  · intro i hi
    refine ⟨_, rfl, ?_, fun _ => rfl⟩
    simp
    rw [ev_mul]
    · simp [p_pos]
    · have := fin_lt f
      omega
theorem times_ev (t : List (Vc p)) (x : Vc p) (ht : t.length ≤ 1000) (h : ∀ r ∈ t, r.length ≤ 1000) : m_times a [.int p, tab t, row x] w = .ok (row (tms t x)) w := by
  have hl : t.length ≤ sizeLine := sz_small (by omega)
  simp [m_times, g_times, hl]
  rw [lcGo_E fun r : Vc p => fd (dot r x)]
  · simp [tms]
    rw [← tup_row', List.map_map]; rfl
  · intro r hr
    refine ⟨_, rfl, rfl, ?_⟩
    simp [met_ev a r x (h r hr)]
theorem lead_go (z : Slot) : ∀ (l : Vc p) (n : Nat) (s1 s2 : Slot), ∃ r', forGo (bTup 2 (bCons (bName 1) (bCons (bName 2) bNil))) (sIf (tE (e2 (eVar 2) (eC (.int 0)) dNe)) (sRet (eVar 1)) sNil) (enumD n (l.map fd)) [z, s1, s2] w =
    match l.findIdx? (fun a => a != 0) with | none => .ok (.nx r') w | some i => .ok (.rt (.int ((n + i : Nat) : Int))) w
  | [], n, s1, s2 => ⟨_, rfl⟩
  | b :: l, n, s1, s2 => by
    rw [List.map_cons]
    unfold enumD
    rw [forGo_cons (by simp; rfl)]
    by_cases e : b = 0
    · subst e
      obtain ⟨r', h⟩ := lead_go z l (n + 1) (.p (.int (n : Int))) (.p (fd (0 : Fin p)))
      refine ⟨r', ?_⟩
      simp [val0]
      rw [h, List.findIdx?_cons]
      simp
      cases List.findIdx? (fun a => a != 0) l with
      | none => rfl
      | some i =>
        simp
        omega
    · have e2 : ¬ ((b.val : Int) = 0) := fun q => e (Fin.ext (by have := val0 (p := p); simp; omega))
      refine ⟨[], ?_⟩
      simp [List.findIdx?_cons, e, e2]
theorem lead_ev (x : Vc p) : m_lead a [row x] w = .ok (ol (lead x)) w := by
  obtain ⟨r', h⟩ := lead_go (w := w) (.p (row x)) x 0 .no .no
  simp [m_lead, g_lead]
  simp [h]
  unfold lead
  cases x.findIdx? fun a => a != 0 with
  | none => simp [ol]
  | some i => simp [ol]
theorem reduced_ev {n : Nat} (hn1 : 1 ≤ n) (hn : n ≤ 100) (d : D) (R : List (Vc p)) (hR : Rs n R) (hd : D.items d = some (R.map row)) : m_reduced a [.int p, d] w = .ok (.lst ((stairs R).map row)) w := by
  simp [m_reduced, g_reduced, hd]
  refine forGo_B (fun (B : List (Vc p)) r => Ech n B ∧ ∃ s3 s4 s5, r = [.p (.int p), .p d, .p (.lst (B.map row)), s3, s4, s5]) LA.step [] ⟨Ech.nil, _, _, _, rfl⟩ ?_ ?_
  · rintro B x r hx ⟨E, s3, s4, s5, rfl⟩
    have hxl := hR x hx
    have hB := len_le E
    simp
    refine forGo_N (fun (y : Vc p) r => y.length = n ∧ ∃ s4, r = [.p (.int p), .p d, .p (.lst (B.map row)), .p (row y), s4, s5]) (fun y b => add y b (-(ent y (ld b)))) x ⟨hxl, _, rfl⟩ ?_ ?_
    · rintro y b r hb ⟨hy, s4', rfl⟩
      have hl := E.len b hb
      have hlt := E.lt hb
      simp [lead_ev, E.lead hb, ol, ix_row (show ld b < y.length by omega), added_ev a y b _ (show y.length ≤ 1000 by omega), fi_neg, fi_of, hy, hl]
    · rintro r' ⟨hl, s4', rfl⟩
      have hl : (redBy B x).length = n := hl
      rw [show B.foldl (fun y b => add y b (-(ent y (ld b)))) x = redBy B x from rfl]
      have hst := (step_ok E hxl).1
      cases e : lead (redBy B x) with
      | none =>
        have es : LA.step B x = B := by unfold LA.step; rw [e]
        rw [es]
        simp [lead_ev, e, ol, E]
      | some l =>
        obtain ⟨l1, l2, l3⟩ := lead_some e
        generalize hz : scl (redBy B x) (inv (ent (redBy B x) l)) = z
        have zl : z.length = n := by rw [← hz]; simpa using hl
        have es : LA.step B x = B.map (fun b => add b z (-(ent b l))) ++ [z] := by unfold LA.step; rw [e]; dsimp only; rw [hz]
        simp [lead_ev, e, ol, ix_row l1, inverse_ev a l2, scaled_ev a (redBy B x) _ (show (redBy B x).length ≤ 1000 by omega), fi_of, hz, sz_small (show B.length ≤ 1000 by omega)]
        rw [lcGo_E fun b : Vc p => row (add b z (-(ent b l)))]
        · simp [sz_small (show B.length + 1 ≤ 1000 by omega), sz_small (show 1 ≤ 1000 by omega)]
          refine ⟨hst, ?_⟩
          rw [es]
          simp
        · intro b hb
          have hbl := E.len b hb
          refine ⟨_, rfl, rfl, ?_⟩
          simp [ix_row (show l < b.length by omega), added_ev a b z _ (show b.length ≤ 1000 by omega), fi_neg, fi_of]
  · rintro r' ⟨E, s3, s4, s5, rfl⟩
    have hB := len_le E
    have E : Ech n (red0 R) := E
    rw [show R.foldl LA.step [] = red0 R from rfl]
    simp [mapM_rowsC, sort_rows]
    rw [if_neg]
    · simp [stairs]
    · rintro ⟨x, hx, e⟩
      have := E.len _ hx
      unfold rin at e
      rw [List.map_eq_nil_iff] at e
      rw [e] at this
      simp at this
      omega
theorem taken_sat (many : Int) (h0 : 0 < many) (h1 : many < 1073741824) (d : Dw h w0 w) : (m_law_taken a [.ref h, .int many] w).Wp (Dn many h w0) E := by
  obtain ⟨⟨ns, i, s, c, e, hi⟩, fr⟩ := d
  have hm : many ≠ 0 := by omega
  simp [m_law_taken, g_law_taken, wL_of e]
  by_cases hc : 0 < c
  · simp [hc, h0, h1]
    exact ⟨_, rfl, Int.emod_nonneg _ hm, Int.emod_lt_of_pos _ h0, Dw.of fr hi⟩
  · simp [hc]
    by_cases hl : (ns.length : Int) < i + 1
    · simp [hl, h0]
      exact ⟨_, rfl, Int.emod_nonneg _ hm, Int.emod_lt_of_pos _ h0, Dw.of fr (by omega)⟩
    · obtain ⟨b, hb⟩ : ∃ b, (ns.map D.int)[i.toNat]? = some (.int b) := by
        rw [List.getElem?_map, List.getElem?_eq_getElem (show i.toNat < ns.length by omega)]
        exact ⟨_, rfl⟩
      simp [hl, atI_int (l := ns.map D.int) hi (by simp; omega)]
      rw [← List.getElem?_map, hb]
      simp
      by_cases hg : 1000000000000000000 ≤ b
      · simp [hg, h0, h1]
        exact ⟨_, rfl, Int.emod_nonneg _ hm, Int.emod_lt_of_pos _ h0, Dw.of fr (by omega)⟩
      · simp [hg, h0]
        exact ⟨_, rfl, Int.emod_nonneg _ hm, Int.emod_lt_of_pos _ h0, Dw.of fr (by omega)⟩
theorem pick_sat (l : List D) (h0 : l ≠ []) (h1 : l.length < 1000) (d : Dw h w0 w) : (m_law_pick a [.ref h, .lst l] w).Wp (fun d w' => d ∈ l ∧ Dw h w0 w') E := by
  have hl : 0 < l.length := List.length_pos_iff.mpr h0
  simp [m_law_pick, g_law_pick]
  refine sat_then (sat_at (taken_sat a l.length (by omega) (by omega) d) fun _ _ z => z) ?_
  rintro _ w1 ⟨v, rfl, v0, v1, dw⟩
  simp [atI_int v0 v1]
  rw [List.getElem?_eq_getElem (by omega)]
  exact ⟨List.getElem_mem _, dw⟩
theorem taken_p (d : Dw h w0 w) : (m_law_taken a [.ref h, .int p] w).Wp (fun d w' => (∃ b : _root_.Fin p, d = fd b) ∧ Dw h w0 w') E := by
  have := p_pos' (p := p)
  have := p_le7 (p := p)
  refine (taken_sat a p (by omega) (by omega) d).mono ?_
  rintro _ w1 ⟨v, rfl, v0, v1, dw⟩
  exact ⟨⟨_, draw_fd v0 v1⟩, dw⟩
theorem row_sat (n : Nat) (hn : n ≤ 100) (d : Dw h w0 w) : (m_law_row a [.ref h, .int p, .int n] w).Wp (fun d w' => (∃ x : Vc p, x.length = n ∧ d = row x) ∧ Dw h w0 w') E := by
  simp [m_law_row, g_law_row]
  rw [if_pos (by omega), if_pos (sz_small (by omega))]
  refine sat_then (lcGo_sat (fun y => ∃ b : _root_.Fin p, y = fd b) (Dw h w0) d ?_) ?_
  · intro d0 w1 _ dw
    simp
    refine sat_then (sat_at (taken_sat a 3 (by omega) (by omega) dw) fun _ _ z => z) ?_
    rintro _ w2 ⟨v, rfl, v0, v1, dw2⟩
    simp
    by_cases hv : 0 < v
    · simp [hv]
      exact sat_at (taken_p a dw2) fun _ _ z => z
    · simp [hv]
      exact ⟨⟨0, by rw [← val0 (p := p)]⟩, dw2⟩
  · rintro ys w1 ⟨h1, h2, dw⟩
    obtain ⟨x, e1, rfl⟩ := rows_of h2
    simp
    exact ⟨⟨x, by rw [e1, h1]; simp, rfl⟩, dw⟩
def stirI (p : Nat) [LA.Pr p] (n : Nat) (h : Addr) (w0 : Om) (r : Sl) (w : Om) : Prop := ∃ (T : List (Vc p)) (s4 s5 s6 s7 s8 s9 s10 : DL.Slot), r = [.p (.ref h), .p (.int p), .p (.int n), .o (T.map lrow), s4, s5, s6, s7, s8, s9, s10] ∧ Full n T ∧ Dw h w0 w
def stirQ (p : Nat) [LA.Pr p] (n : Nat) (h : Addr) (w0 : Om) (res : Res) (w : Om) : Prop := ∃ r, res = .nx r ∧ stirI p n h w0 r w
theorem swap_map {T : List (Vc p)} {i j : Nat} {x y z : Vc p} : ((T.map lrow).set i (lrow y)).set j (lrow z) = (((T.set i x).set i y).set j z).map lrow := by rw [List.map_set, List.map_set, List.map_set, List.set_set]
theorem stir_sat (n : Nat) (hn1 : 1 ≤ n) (hn : n ≤ 100) (d : Dw h w0 w) : (m_law_stir a [.ref h, .int p, .int n] w).Wp (fun d w' => (∃ T : List (Vc p), Full n T ∧ d = tab T) ∧ Dw h w0 w') E := by
  have hp0 := p_pos' (p := p)
  have hp7 := p_le7 (p := p)
  have hp2 := pr_gt p
  simp [m_law_stir, g_law_stir]
  rw [if_pos (by omega), if_pos (sz_small (by omega))]
  rw [lcGo_E fun i : Nat => lrow (un p n i)]
  · simp
    refine sat_then (sat_at (taken_sat a 5 (by omega) (by omega) d) fun _ _ z => z) ?_
    rintro _ w1 ⟨v, rfl, v0, v1, dw⟩
    simp
    rw [if_pos (by omega)]
    refine sat_then (forGo_sat' (Q := stirQ p n h w0) (stirI p n h w0) ?_ ?_ fun r w z => ⟨r, rfl, z⟩) ?_
    · exact ⟨idt p n, _, _, _, _, _, _, _, by simp only [idt, List.map_map]; rfl, full_idt, dw⟩
    · rintro d0 r w1 hd ⟨T, s4, s5, s6, s7, s8, s9, s10, rfl, hT, dw⟩
      simp
      refine sat_then (sat_at (taken_sat a n (by omega) (by omega) dw) fun _ _ z => z) ?_
      rintro _ w2 ⟨i, rfl, i0, i1, dw⟩
      simp
      refine sat_then (sat_at (taken_sat a n (by omega) (by omega) dw) fun _ _ z => z) ?_
      rintro _ w3 ⟨j, rfl, j0, j1, dw⟩
      simp
      refine sat_then (sat_at (taken_sat a (p - 1) (by omega) (by omega) dw) fun _ _ z => z) ?_
      rintro _ w4 ⟨f, rfl, f0, f1, dw⟩
      have hi : i.toNat < T.length := by rw [hT.sz]; omega
      have hj : j.toNat < T.length := by rw [hT.sz]; omega
      have hTi : T[i.toNat].length = n := hT.rs _ (List.getElem_mem _)
      have hTj : T[j.toNat].length = n := hT.rs _ (List.getElem_mem _)
      simp
      have hlen : ((T.map lrow).length : Int) = n := by simp [hT.sz]
      by_cases ne : i = j
      · subst ne
        simp [atI_lst i0 (show i < ((T.map lrow).length : Int) by omega), ixN_int i0 (show i < (T.length : Int) by rw [hT.sz]; omega)]
        have e1 : (T.map lrow).set i.toNat (lrow T[i.toNat]) = T.map lrow := by rw [← List.map_set, List.set_getElem_self]
        rw [e1]
        exact ⟨T, _, _, _, _, _, _, _, rfl, hT, dw⟩
      · have e1 : (T.map lrow).set i.toNat (lrow (add T[i.toNat] T[j.toNat] (fi p (1 + f)))) = (T.set i.toNat (add T[i.toNat] T[j.toNat] (fi p (1 + f)))).map lrow := (List.map_set ..).symm
        have hF := hT.setadd hi hj (by omega) (fi p (1 + f))
        have hF2 := hF.swap (i := i.toNat) (j := j.toNat) (by simpa using hi) (by simpa using hj)
        simp [ne, atI_lst i0 (show i < ((T.map lrow).length : Int) by omega), atI_lst j0 (show j < ((T.map lrow).length : Int) by omega), ixN_int i0 (show i < (T.length : Int) by rw [hT.sz]; omega), ixN_int j0 (show j < (T.length : Int) by rw [hT.sz]; omega), zipD_map]
        rw [if_pos (sz_small (by omega)), lcGo_E fun q : _root_.Fin p × _root_.Fin p => fd (q.1 + fi p (1 + f) * q.2)]
        · rw [added_list]
          simp only [Out.bind_ok, relK_o, lst_lrow]
          have hi' : i.toNat < (T.set i.toNat (add T[i.toNat] T[j.toNat] (fi p (1 + f)))).length := by simpa using hi
          have hj' : j.toNat < (T.set i.toNat (add T[i.toNat] T[j.toNat] (fi p (1 + f)))).length := by simpa using hj
          rw [e1, atI_lst j0 (by simp; omega), atI_lst i0 (by simp; omega), List.getElem_map, List.getElem_map]
          simp only [ocase_some, Out.wp_ok, resK_nx]
          rw [swap_map (x := add T[i.toNat] T[j.toNat] (fi p (1 + f)))]
          exact ⟨_, _, _, _, _, _, _, _, rfl, hF2, dw⟩
        · rintro ⟨u, v⟩ _
          refine ⟨_, rfl, rfl, ?_⟩
          simp
          rw [ev_mul]
          · simp [p_pos]
            rw [val_fi, fi_add, fi_mul, fi_of, fi_of]
          · have := fin_lt v
            omega
    · rintro _ w2 ⟨_, rfl, T, s4, s5, s6, s7, s8, s9, s10, rfl, hT, dw⟩
      simp
      rw [if_pos (sz_small (by rw [hT.sz]; omega)), lcGo_E fun x : Vc p => row x]
      · simp
        exact ⟨⟨T, hT, rfl⟩, dw⟩
      · intro x hx
        exact ⟨_, rfl, rfl, by simp⟩
  · intro i hi
    refine ⟨_, rfl, rfl, ?_⟩
    simp
    rw [if_pos (by omega), if_pos (sz_small (by omega))]
    rw [lcGo_E fun j : Nat => fd (if j = i then (1 : _root_.Fin p) else 0)]
    · simp only [Out.bind_ok, relK_o]
      rw [← lst_lrow, un, List.map_map]
      rfl
    · intro j hj
      refine ⟨_, rfl, rfl, ?_⟩
      simp
      by_cases q : j = i
      · subst q
        simp [val1]
      · simp [q, val0]
        omega
def machQ (L : List Int) (cells plugs : Nat) (h : Addr) (w0 : Om) (d : D) (w : Om) : Prop := ∃ (p : Nat) (hp : LA.Pr p) (M : @Mc p hp), (p : Int) ∈ L ∧ M.Ok ∧ d = M.d ∧ M.n ≤ cells ∧ M.W.length ≤ plugs ∧ M.T.length ≤ plugs ∧ Dw h w0 w
theorem rows_sat {p : Nat} [hp : LA.Pr p] (n : Nat) (hn : n ≤ 100) {s1 s2 s3 s6 s7 s8 : DL.Slot} {ds : List D} (d : Dw h w0 w) :
    (lcGo (bName 7) tYesD (eCallN 3 (m_law_row a) [] (aCons (eVar 0) (aCons (eVar 4) (aCons (eVar 5) aNil)))) [.p (.ref h), s1, s2, s3, .p (.int p), .p (.int n), s6, s7, s8] ds w).Wp (fun ys w' => ∃ t : List (Vc p), t.length = ds.length ∧ Rs n t ∧ ys = t.map row ∧ Dw h w0 w') E := by
  refine (lcGo_sat (fun y => ∃ x : Vc p, x.length = n ∧ y = row x) (Dw h w0) d fun d0 w1 _ dw => ?_).mono ?_
  · simp
    exact sat_at (row_sat a n hn dw) fun _ _ z => z
  · rintro ys w1 ⟨h1, h2, dw⟩
    obtain ⟨t, t1, t2, t3⟩ := tabs_of h2
    exact ⟨t, by rw [t1, h1], t2, t3, dw⟩
theorem machine_sat (L : List Int) (hL : ∀ x ∈ L, x = 2 ∨ x = 3 ∨ x = 5 ∨ x = 7) (hL0 : L ≠ []) (hL1 : L.length < 1000) (cells plugs : Nat) (hc1 : 1 ≤ cells) (hc : cells ≤ 4) (hp1 : 1 ≤ plugs) (hp4 : plugs ≤ 4) (d : Dw h w0 w) :
    (m_law_machine a [.ref h, .lst (L.map .int), .int cells, .int plugs] w).Wp (machQ L cells plugs h w0) E := by
  simp [m_law_machine, g_law_machine]
  refine sat_then (sat_at (pick_sat a (L.map .int) (by simpa using hL0) (by simpa using hL1) d) fun _ _ z => z) ?_
  rintro _ w1 ⟨hd, dw⟩
  obtain ⟨pi, hpi, rfl⟩ := List.mem_map.mp hd
  obtain ⟨p, hp, rfl⟩ : ∃ p : Nat, ∃ hp : LA.Pr p, pi = (p : Int) := by
    rcases hL pi hpi with rfl | rfl | rfl | rfl
    · exact ⟨2, inferInstance, rfl⟩
    · exact ⟨3, inferInstance, rfl⟩
    · exact ⟨5, inferInstance, rfl⟩
    · exact ⟨7, inferInstance, rfl⟩
  refine sat_then (sat_at (taken_sat a cells (by omega) (by omega) dw) fun _ _ z => z) ?_
  rintro _ w2 ⟨v, rfl, v0, v1, dw⟩
  obtain ⟨n, hn⟩ : ∃ n : Nat, 1 + v = (n : Int) := ⟨(1 + v).toNat, by omega⟩
  simp [hn]
  refine sat_then (sat_at (taken_sat a plugs (by omega) (by omega) dw) fun _ _ z => z) ?_
  rintro _ w3 ⟨u, rfl, u0, u1, dw⟩
  obtain ⟨u', hu⟩ : ∃ u' : Nat, 1 + u = (u' : Int) := ⟨(1 + u).toNat, by omega⟩
  simp [hu]
  rw [if_pos (by omega), if_pos (sz_small (by omega))]
  refine sat_then (rows_sat (p := p) a n (by omega) dw) ?_
  rintro _ w4 ⟨W, W1, W2, rfl, dw⟩
  simp
  refine sat_then (sat_at (taken_sat a plugs (by omega) (by omega) dw) fun _ _ z => z) ?_
  rintro _ w5 ⟨t, rfl, t0, t1, dw⟩
  obtain ⟨t', ht⟩ : ∃ u' : Nat, 1 + t = (u' : Int) := ⟨(1 + t).toNat, by omega⟩
  simp [ht]
  rw [if_pos (by omega), if_pos (sz_small (by omega))]
  refine sat_then (rows_sat (p := p) a n (by omega) dw) ?_
  rintro _ w6 ⟨T, T1, T2, rfl, dw⟩
  simp
  refine sat_then (sat_at (stir_sat (p := p) a n (by omega) (by omega) dw) fun _ _ z => z) ?_
  rintro _ w7 ⟨⟨S, hS, rfl⟩, dw⟩
  simp at W1 T1
  rw [if_pos (sz_small (by omega))]
  simp
  exact ⟨p, hp, ⟨n, S, W, T⟩, hpi, ⟨by dsimp only; omega, by dsimp only; omega, hS, by dsimp only; omega, by dsimp only; omega, W2, by dsimp only; omega, by dsimp only; omega, T2⟩, rfl, by dsimp only; omega, by dsimp only; omega, by dsimp only; omega, dw⟩
theorem is_number_ev (d : D) (lo hi : Int) (h : D.ty d ≠ none) : m_is_number a [d, .int lo, .int hi] w = .ok (.bl (isNumB lo hi d)) w := by
  cases d with
  | ref a => exact absurd rfl h
  | _ => simp [m_is_number, g_is_number, isNumB]
theorem is_row_ev (d : D) (n : Nat) (h : D.ty d ≠ none) (h2 : ∀ l, d = .tup l → ∀ e ∈ l, D.ty e ≠ none) : m_is_row a [.int p, d, .int n] w = .ok (.bl (isRowB p n d)) w := by
  cases d with
  | ref a => exact absurd rfl h
  | tup l =>
    have h2 := h2 l rfl
    simp [m_is_row, g_is_row, isRowB]
    by_cases e : l.length = n
    · have e' : (l.length : Int) = n := by omega
      simp [e, e']
      rw [allGo_all (isNumB 0 ((p : Int) - 1))]
      exact fun d hd => ⟨_, rfl, by simp [is_number_ev a d _ _ (h2 d hd)]⟩
    · have e' : ¬ (l.length : Int) = n := by omega
      simp [e, e']
  | _ => simp [m_is_row, g_is_row, isRowB]
theorem are_rows_ev (d : D) (lo hi n : Nat) (h : D.ty d ≠ none) (h2 : ∀ l, d = .tup l → ∀ e ∈ l, D.ty e ≠ none ∧ ∀ l2, e = .tup l2 → ∀ e2 ∈ l2, D.ty e2 ≠ none) : m_are_rows a [.int p, d, .int lo, .int hi, .int n] w = .ok (.bl (areRowsB p lo hi n d)) w := by
  cases d with
  | ref a => exact absurd rfl h
  | tup l =>
    have h2 := h2 l rfl
    simp [m_are_rows, g_are_rows, areRowsB]
    by_cases e : lo ≤ l.length ∧ l.length ≤ hi
    · simp [e.1, e.2, show ((lo : Int) ≤ l.length) by omega, show ((l.length : Int) ≤ hi) by omega]
      rw [if_neg (by omega), allGo_all (isRowB p n)]
      exact fun d hd => ⟨_, rfl, by simp [is_row_ev a d n (h2 d hd).1 (h2 d hd).2]⟩
    · by_cases e1 : lo ≤ l.length
      · have e2 : ¬ l.length ≤ hi := fun z => e ⟨e1, z⟩
        simp [e1, e2, show ((lo : Int) ≤ l.length) by omega, show ¬ ((l.length : Int) ≤ hi) by omega]
      · simp [e1, show ¬ ((lo : Int) ≤ l.length) by omega]
  | _ => simp [m_are_rows, g_are_rows, areRowsB]
theorem are_rows_tab (t : List (Vc p)) (lo hi n : Nat) (h1 : lo ≤ t.length) (h2 : t.length ≤ hi) (h : Rs n t) : m_are_rows a [.int p, tab t, .int lo, .int hi, .int n] w = .ok (.bl true) w := by
  rw [are_rows_ev, areRows_tab h1 h2 h]
  · simp
  · intro l hl e he
    cases hl
    obtain ⟨x, _, rfl⟩ := List.mem_map.mp he
    refine ⟨by simp, fun l2 hl2 e2 he2 => ?_⟩
    cases hl2
    obtain ⟨b, _, rfl⟩ := List.mem_map.mp he2
    simp
theorem need_machine_ok (M : Mc p) (ok : M.Ok) : m_need_machine a [M.d] w = .ok .non w := by
  have h1 := ok.n1
  have h4 := ok.n4
  have h7 := p_le7 (p := p)
  have h2 := pr_gt p
  have hs := ok.full.sz
  have hp1 : isNumB 2 7 (.int p) = true := by simp [isNumB]; omega
  have e1 := are_rows_tab a (w := w) M.S M.n M.n M.n (by omega) (by omega) ok.full.rs
  have e2 : m_are_rows a [.int p, tab M.W, .int 1, .int 4, .int M.n] w = .ok (.bl true) w := are_rows_tab a (w := w) M.W 1 4 M.n (by have := ok.w1; omega) (by have := ok.w4; omega) ok.wr
  have e3 : m_are_rows a [.int p, tab M.T, .int 1, .int 4, .int M.n] w = .ok (.bl true) w := are_rows_tab a (w := w) M.T 1 4 M.n (by have := ok.t1; omega) (by have := ok.t4; omega) ok.tr
  have e4 := reduced_ev a (w := w) h1 (by omega) (tab M.S) M.S ok.full.rs rfl
  have e5 := ok.full.rank
  simp [m_need_machine, g_need_machine, Mc.d, is_number_ev, hp1, prime_in, hs, show ¬ ((M.n : Int) < 1) by omega, show (1 : Int) ≤ (M.n : Int) by omega, show (M.n : Int) ≤ 4 by omega, e1, e2, e3, e4, e5]

theorem stirred_ev (M : Mc p) (ok : M.Ok) (x : Vc p) : m_stirred a [M.d, row x] w = .ok (row (M.st x)) w := by
  have h4 := ok.n4
  have hs := ok.full.sz
  simp [m_stirred, g_stirred, times_ev a M.S x (by omega) (fun r hr => by rw [ok.full.rs r hr]; omega), Mc.st]
theorem lmet_ev (x y : Vc p) (hx : x.length ≤ 1000) : m_law_met a [.int p, row x, row y] w = .ok (fd (dot x y)) w := by
  have hl : min x.length y.length ≤ sizeLine := sz_small (by omega)
  simp [m_law_met, g_law_met, zipD_map, hl]
  rw [lcGo_E fun q : _root_.Fin p × _root_.Fin p => .int ((q.1.val : Int) * (q.2.val : Int))]
  · rw [show (fun q : _root_.Fin p × _root_.Fin p => D.int ((q.1.val : Int) * (q.2.val : Int))) = D.int ∘ fun q => (q.1.val : Int) * (q.2.val : Int) from rfl, ← List.map_map]
    simp only [Out.bind_ok, relK_o, ev_sum]
    simp [p_pos, sum_dot]
  · rintro ⟨u, v⟩ _
    refine ⟨_, rfl, rfl, ?_⟩
    simp
    rw [ev_mul]
    have := fin_lt u
    omega
theorem ladded_ev (x y : Vc p) (f : Int) (hx : x.length ≤ 1000) : m_law_added a [.int p, row x, row y, .int f] w = .ok (row (add x y (fi p f))) w := by
  have hl : min x.length y.length ≤ sizeLine := sz_small (by omega)
  simp [m_law_added, g_law_added, zipD_map, hl]
  rw [lcGo_E fun q : _root_.Fin p × _root_.Fin p => fd (q.1 + fi p f * q.2)]
  · simp [added_list]
  · rintro ⟨u, v⟩ _
    refine ⟨_, rfl, rfl, ?_⟩
    simp
    rw [ev_mul]
    · simp [p_pos]
      rw [val_fi, fi_add, fi_mul, fi_of, fi_of]
    · have := fin_lt v
      omega
theorem lstirred_ev (M : Mc p) (ok : M.Ok) (x : Vc p) : m_law_stirred a [M.d, row x] w = .ok (row (M.st x)) w := by
  have h4 := ok.n4
  have hs := ok.full.sz
  simp [m_law_stirred, g_law_stirred, sz_small (show M.S.length ≤ 1000 by omega)]
  rw [lcGo_E fun r : Vc p => fd (dot r x)]
  · simp [Mc.st, tms]
    rw [← tup_row', List.map_map]; rfl
  · intro r hr
    refine ⟨_, rfl, rfl, ?_⟩
    simp [lmet_ev a r x (by rw [ok.full.rs r hr]; omega)]
theorem ldeed_ev (M : Mc p) (ok : M.Ok) (m : Vc p) (hm : m.length = M.n) (hd : _root_.Fin p) (e : Deed) (he : e.Ok M) : m_law_deed a [M.d, row m, fd hd, e.d] w = .ok (.tup [row (e.mem M m hd), fd (e.hand M m hd)]) w := by
  have h4 := ok.n4
  have w4 := ok.w4
  have t4 := ok.t4
  have h2 := sz_small (n := 2) (by omega)
  have tl : ∀ {i}, i < M.T.length → (gt M.T i).length ≤ 1000 := fun {i} q => by rw [ok.tr _ (getD_mem q)]; omega
  have ml : m.length ≤ 1000 := by omega
  have h3 := sz_small (n := 3) (by omega)
  cases e with
  | get j =>
    simp [m_law_deed, g_law_deed, Deed.d, ix_tabD (show j < M.T.length from he), lmet_ev a _ m (tl he), lstirred_ev a M ok, h2, h3, Deed.mem, Deed.hand, D.in?, D.inF, D.flat, D.flats, D.items, inV, eqV, p_pos, fin_emod]
  | plus j =>
    simp [m_law_deed, g_law_deed, Deed.d, ix_tabD (show j < M.T.length from he), lmet_ev a _ m (tl he), lstirred_ev a M ok, h2, h3, Deed.mem, Deed.hand, D.in?, D.inF, D.flat, D.flats, D.items, inV, eqV, p_pos]
    rw [val_fi, fi_add, fi_of, fi_of]
  | minus j =>
    simp [m_law_deed, g_law_deed, Deed.d, ix_tabD (show j < M.T.length from he), lmet_ev a _ m (tl he), lstirred_ev a M ok, h2, h3, Deed.mem, Deed.hand, D.in?, D.inF, D.flat, D.flats, D.items, inV, eqV, p_pos]
    rw [val_fi, fi_sub, fi_of, fi_of]
  | add i => simp [m_law_deed, g_law_deed, Deed.d, ix_tabD (show i < M.W.length from he), ladded_ev a m _ _ ml, lstirred_ev a M ok, h2, h3, Deed.mem, Deed.hand, D.in?, D.inF, D.flat, D.flats, D.items, inV, eqV, fi_of]
  | take i => simp [m_law_deed, g_law_deed, Deed.d, ix_tabD (show i < M.W.length from he), ladded_ev a m _ _ ml, lstirred_ev a M ok, h2, h3, Deed.mem, Deed.hand, D.in?, D.inF, D.flat, D.flats, D.items, inV, eqV, fi_of, fi_neg]
  | put c =>
    simp [m_law_deed, g_law_deed, Deed.d, lstirred_ev a M ok, h2, h3, Deed.mem, Deed.hand, D.in?, D.inF, D.flat, D.flats, D.items, inV, eqV]
    rw [fi_val, Int.emod_eq_of_lt (by omega) (by have : c < p := he; omega)]
  | wait => simp [m_law_deed, g_law_deed, Deed.d, lstirred_ev a M ok, h2, h3, Deed.mem, Deed.hand, D.in?, D.inF, D.flat, D.flats, D.items, inV, eqV]
theorem alike_ev : ∀ (n : Nat) (d : D), okA n d = true → m_law_alike a n [d, d] w = .ok (.bl true) w
  | 0, d, h => by cases h
  | n + 1, .tup l, h => by
    unfold okA at h
    simp at h
    obtain ⟨h1, h2⟩ := h
    unfold m_law_alike
    simp [g_law_alike]
    rw [if_pos (by omega), if_pos (sz_small h1)]
    rw [lcGo_Ef (fun _ => false) fun k : Nat => .int (k : Int)]
    · rw [List.filter_eq_nil_iff.mpr (by simp)]
      simp
    · intro k hk
      have hk : k < l.length := List.mem_range.mp hk
      refine ⟨_, rfl, ?_, fun z => by cases z⟩
      simp [atI_nat hk, List.getElem?_eq_getElem hk, alike_ev n l[k] (h2 _ (List.getElem_mem hk))]
  | n + 1, .lst l, h => by
    unfold okA at h
    simp at h
    obtain ⟨h1, h2⟩ := h
    unfold m_law_alike
    simp [g_law_alike]
    rw [if_pos (by omega), if_pos (sz_small h1)]
    rw [lcGo_Ef (fun _ => false) fun k : Nat => .int (k : Int)]
    · rw [List.filter_eq_nil_iff.mpr (by simp)]
      simp
    · intro k hk
      have hk : k < l.length := List.mem_range.mp hk
      refine ⟨_, rfl, ?_, fun z => by cases z⟩
      simp [atI_nat hk, List.getElem?_eq_getElem hk, alike_ev n l[k] (h2 _ (List.getElem_mem hk))]
  | n + 1, .non, h => by unfold m_law_alike; simp [g_law_alike]
  | n + 1, .bl b, h => by unfold m_law_alike; simp [g_law_alike]
  | n + 1, .int b, h => by unfold m_law_alike; simp [g_law_alike]
  | n + 1, .str b, h => by unfold m_law_alike; simp [g_law_alike]
  | n + 1, .fl _, h => by cases h
  | n + 1, .ref _, h => by cases h
theorem zipD_same {α : Type} {F G : α → D} : ∀ l : List α, zipD (l.map F) (l.map G) = l.map fun b => .tup [F b, G b]
  | [] => rfl
  | b :: l => by
    rw [List.map_cons, List.map_cons, List.map_cons, ← zipD_same l]
    rfl
theorem nul_fold {n : Nat} {S : List (Vc p)} : ∀ (l : List Nat) (L : List (Vc p)), l.foldl (fun L j => if j ∈ S.map ld then L else L ++ [col n S j]) L = L ++ (l.filter fun j => decide (j ∉ S.map ld)).map (col n S)
  | [], L => by simp
  | j :: l, L => by
    rw [List.foldl_cons, nul_fold l]
    by_cases q : j ∈ S.map ld
    · rw [if_pos q, List.filter_cons_of_neg (by simpa using q)]
    · rw [if_neg q, List.filter_cons_of_pos (by simpa using q)]
      simp
theorem map_set_fd {c : Vc p} {i : Nat} {b : _root_.Fin p} : (c.map fd).set i (fd b) = (c.set i b).map fd := (List.map_set ..).symm
theorem noughts_ev (d : D) (R : List (Vc p)) {n : Nat} (hn1 : 1 ≤ n) (hn : n ≤ 12) (hR : Rs n R) (hd : d.items = some (R.map row)) : m_noughts a [.int p, d, .int n] w = .ok (.lst ((LA.stairs (null n (LA.stairs R))).map row)) w := by
  obtain ⟨St, eqs⟩ := stairs_ok hR
  have hS := len_le St.toEch
  simp [m_noughts, g_noughts, reduced_ev a hn1 (by omega) d R hR hd]
  generalize LA.stairs R = S at *
  rw [if_pos (sz_small (by omega)), lcGo_E fun b : Vc p => .int (ld b : Int)]
  · simp
    rw [if_pos (by omega)]
    refine forGo_Bi (fun i (L : List (Vc p)) r => L.length ≤ i ∧ ∃ s4 s5 s7 s8 s9, r = [.p (.int p), .p (d), .p (.int n), .p (.lst (S.map row)), s4, s5, .o (L.map row), s7, s8, s9] ∧ (s4 = .o (S.map fun b => .int (ld b : Int)) ∨ s4 = .p (.lst (S.map fun b => .int (ld b : Int)))))
      (fun L j => if j ∈ S.map ld then L else L ++ [col n S j]) [] ⟨by simp, _, _, _, _, _, rfl, .inl rfl⟩ ?_ ?_
    · rintro i L j r hj hi ⟨hL, s4, s5, s7, s8, s9, rfl, h4⟩
      have hj := List.mem_range.mp hj
      have hi : i < n := by simpa using hi
      have hin : ∀ j : Nat, D.in? (.int (j : Int)) (.lst (S.map fun b => .int (ld b : Int))) = some (decide (j ∈ S.map ld)) := fun j => by
        rw [show (S.map fun b => D.int (ld b : Int)) = (S.map fun b => (ld b : Int)).map D.int by rw [List.map_map]; rfl, in_ints]
        congr 1
        apply decide_eq_decide.mpr
        simp only [List.mem_map]
        constructor
        · rintro ⟨b, hb, e⟩
          exact ⟨b, hb, by omega⟩
        · rintro ⟨b, hb, e⟩
          exact ⟨b, hb, by omega⟩
      have hz : (List.replicate n (D.int 0)).set j (.int 1) = ((zer p n).set j 1).map fd := by
        rw [List.map_set, zer, List.map_replicate]
        congr 2
        exact val1.symm
      have nz : (n : Int) < 9223372036854775808 := by omega
      by_cases q : j ∈ S.map ld
      · have q' : (if j ∈ S.map ld then L else L ++ [col n S j]) = L := if_pos q
        rw [q']
        rcases h4 with rfl | rfl <;> simp [hin, q] <;> omega
      · have q' : (if j ∈ S.map ld then L else L ++ [col n S j]) = L ++ [col n S j] := if_neg q
        rw [q']
        rcases h4 with rfl | rfl
        all_goals
          simp [rel, hin, q, -List.mem_map, flat_one, nz, sz_small (show n ≤ 1000 by omega), sz_small (show 1 ≤ 1000 by omega), ixN_nat hj, hz, zipD_same]
          refine forGo_N (fun (c : Vc p) r => c.length = n ∧ ∃ s5 s9, r = [.p (.int p), .p (d), .p (.int n), .p (.lst (S.map row)), .p (.lst (S.map fun b => .int (ld b : Int))), s5, .o (L.map row), .p (.int (j : Int)), .o (c.map fd), s9]) (fun c b => c.set (ld b) (-(ent b j))) ((zer p n).set j 1) ⟨by simp, s5, s9, by rw [List.map_set]⟩ ?_ ?_
          · rintro c b r hb ⟨hc, s5, s9, rfl⟩
            have hlt := St.toEch.lt hb
            have hbl := St.toEch.len b hb
            simp [ix_row (show j < b.length by omega), p_pos, ixN_nat (show ld b < c.length by omega)]
            refine ⟨hc, ?_⟩
            rw [val_fi, fi_neg, fi_of]
          · rintro r' ⟨hc, s5, s9, rfl⟩
            simp [show L.length < sizeLine from Nat.lt_of_lt_of_le (show L.length < 1000 by omega) (sz_small (Nat.le_refl _))]
            exact ⟨hL, _, ⟨rfl, rfl⟩, .inr rfl⟩
    · rintro r' ⟨hL, s4, s5, s7, s8, s9, rfl, h4⟩
      rw [nul_fold, List.nil_append, show ((List.range n).filter fun j => decide (j ∉ S.map ld)).map (col n S) = null n S from rfl]
      simp [rel, reduced_ev a (w := w) hn1 (by omega) (.lst ((null n S).map row)) (null n S) null_rs rfl]
  · intro b hb
    refine ⟨_, rfl, rfl, ?_⟩
    simp [lead_ev, St.toEch.lead hb, ol]
theorem foldl_app {α β : Type} {G : α → List β} : ∀ (l : List α) (L : List β), l.foldl (fun L f => L ++ G f) L = L ++ l.flatMap G
  | [], L => by simp
  | f :: l, L => by rw [List.foldl_cons, foldl_app l, List.flatMap_cons, List.append_assoc]
theorem fin_range : List.finRange p = (List.range p).map fun k : Nat => fi p k := by
  apply List.ext_getElem (by simp)
  intro i h1 h2
  simp at h1
  simp
  apply Fin.ext
  have := fi_val (p := p) (i : Int)
  rw [Int.emod_eq_of_lt (by omega) (by omega)] at this
  simp
  omega
theorem flat_range {β : Type} {G : _root_.Fin p → List β} : (List.range p).foldl (fun L (k : Nat) => L ++ G (fi p k)) [] = (List.finRange p).flatMap G := by
  rw [foldl_app, fin_range, List.nil_append, List.flatMap_map]
theorem lspan_ev (d : D) (R : List (Vc p)) {n : Nat} (hn1 : 1 ≤ n) (hn : n ≤ 12) (h49 : p ^ n ≤ 125) (hR : Rs n R) (hd : d.items = some (R.map row)) : m_law_span a [.int p, d, .int n] w = .ok (.lst ((asort (spn n R)).map row)) w := by
  have hp7 := p_le7 (p := p)
  have s1 := sz_small (n := 1) (by omega)
  simp [m_law_span, g_law_span, hd, s1, rep_row (p := p) hn1 (show n ≤ 1000 by omega)]
  refine forGo_B (fun (F : List (Vc p)) r => (∃ Q, Rs n Q ∧ All n Q F) ∧ ∃ s4 s5 s6 s7, r = [.p (.int p), .p (d), .p (.int n), .p (.lst (F.map row)), s4, s5, s6, s7]) grow [zer p n] ⟨⟨[], Rs.nil, by simp, fun x => by rw [List.mem_singleton, sp_nil]⟩, _, _, _, _, rfl⟩ ?_ ?_
  · rintro F y r hy ⟨⟨Q, hQ, hF⟩, s4, s5, s6, s7, rfl⟩
    have hyl := hR y hy
    have g := grow_all hQ hyl hF
    have gl := g.le (hQ.app (Rs.cons hyl Rs.nil))
    have fl := hF.le hQ
    by_cases q : y ∈ F
    · have q' : grow F y = F := if_pos q
      rw [q']
      simp [q]
      exact ⟨Q, hQ, hF⟩
    · have q' : grow F y = (List.finRange p).flatMap fun f => F.map fun x => add x y f := if_neg q
      have ql : p * F.length ≤ 125 := by
        have e : ((List.finRange p).flatMap fun f => F.map fun x => add x y f).length = p * F.length := by
          rw [List.length_flatMap]
          have k : ((List.finRange p).map fun f => (F.map fun x => add x y f).length) = (List.finRange p).map fun _ => F.length := by
            apply List.map_congr_left
            intro f _
            rw [List.length_map]
          rw [k, List.map_const', List.sum_replicate_nat, List.length_finRange]
        rw [q', e] at gl
        omega
      simp [q]
      rw [if_pos (by omega)]
      refine forGo_Ni (fun i (L : List (Vc p)) r => L.length = i * F.length ∧ ∃ s6 s7, r = [.p (.int p), .p (d), .p (.int n), .p (.lst (F.map row)), .p (row y), .p (.lst (L.map row)), s6, s7]) (fun L (k : Nat) => L ++ F.map fun x => add x y (fi p k)) [] ⟨by simp, _, _, rfl⟩ ?_ ?_
      · rintro i L k r hk hi ⟨hL, s6, s7, rfl⟩
        have hi : i < p := by simpa using hi
        have bl : (i + 1) * F.length ≤ p * F.length := Nat.mul_le_mul_right _ (by omega)
        have bl2 : (i + 1) * F.length = i * F.length + F.length := Nat.succ_mul ..
        simp [sz_small (show F.length ≤ 1000 by omega)]
        rw [lcGo_E fun x : Vc p => row (add x y (fi p k))]
        · simp [sz_small (show L.length + F.length ≤ 1000 by omega)]
          omega
        · intro x hx
          have hxl := ((hF.mem x).mp hx).len hQ
          refine ⟨_, rfl, rfl, ?_⟩
          simp [ladded_ev a x y _ (show x.length ≤ 1000 by omega)]
      · rintro r' ⟨hL, s6, s7, rfl⟩
        rw [flat_range (G := fun f => F.map fun x => add x y f)] at hL ⊢
        simp
        exact ⟨⟨_, hQ.app (Rs.cons hyl Rs.nil), g⟩, by rw [q', List.map_flatMap]⟩
  · rintro r' ⟨⟨Q, hQ, hF⟩, s4, s5, s6, s7, rfl⟩
    have hF' : R.foldl grow [zer p n] = spn n R := rfl
    rw [hF'] at hF ⊢
    simp [mapM_rowsC]
    rw [if_neg]
    · simp [asort_rows]
    · exact fun z => nil_notin (fun x hx => ((hF.mem x).mp hx).len hQ) hn1 (by simpa using z)
theorem enumD_row : ∀ (x : Vc p) (n : Nat), enumD n (x.map fd) = (x.zipIdx n).map fun q => .tup [.int (q.2 : Int), fd q.1]
  | [], n => rfl
  | b :: x, n => by
    rw [List.map_cons, List.zipIdx_cons, List.map_cons, ← enumD_row x (n + 1)]
    rfl
theorem lead_filter : ∀ (x : Vc p) (n l : Nat), lead x = some l → ∃ b rest, (x.zipIdx n).filter (fun q => decide (q.1 ≠ 0)) = (b, n + l) :: rest
  | [], n, l, h => by simp [lead] at h
  | b :: x, n, l, h => by
    rw [List.zipIdx_cons]
    by_cases q : b = 0
    · rw [List.filter_cons_of_neg (by simpa using q)]
      unfold lead at h
      rw [List.findIdx?_cons] at h
      simp [q] at h
      obtain ⟨m, h1, h2⟩ := h
      obtain ⟨c, rest, e⟩ := lead_filter x (n + 1) m h1
      exact ⟨c, rest, by rw [e]; congr 2; omega⟩
    · rw [List.filter_cons_of_pos (by simpa using q)]
      unfold lead at h
      rw [List.findIdx?_cons] at h
      simp [q] at h
      exact ⟨b, _, by rw [← h]; rfl⟩
theorem llead_ev (x : Vc p) {l : Nat} (hl : lead x = some l) (hx : x.length ≤ 1000) : m_law_lead a [row x] w = .ok (.int (l : Int)) w := by
  have hz := sz_small hx
  simp [m_law_lead, g_law_lead]
  rw [enumD_row]
  simp [hz]
  rw [lcGo_Ef (fun q : _root_.Fin p × Nat => decide (q.1 ≠ 0)) fun q => .int (q.2 : Int)]
  · obtain ⟨b, rest, e⟩ := lead_filter x 0 l hl
    rw [e]
    simp
  · rintro ⟨u, i⟩ _
    refine ⟨_, rfl, ?_, fun _ => by simp⟩
    simp
theorem lrows_ev {n : Nat} (hn : n ≤ 12) (h49 : p ^ n ≤ 125) : m_law_rows a [.int p, .int n] w = .ok (.lst ((vecs p n).map row)) w := by
  have hp7 := p_le7 (p := p)
  have s1 := sz_small (n := 1) (by omega)
  have e0 : D.tup [] = row ([] : Vc p) := rfl
  simp [m_law_rows, g_law_rows, s1, e0]
  rw [if_pos (by omega)]
  refine forGo_Bi (fun i (F : List (Vc p)) r => F = vecs p i ∧ ∃ s3 s4 s5 s6, r = [.p (.int p), .p (.int n), .p (.lst (F.map row)), s3, s4, s5, s6]) (fun F _ => F.flatMap fun x => (List.finRange p).map fun b => x ++ [b]) [[]] ⟨rfl, _, _, _, _, rfl⟩ ?_ ?_
  · rintro i _ k r hk hi ⟨rfl, s3, s4, s5, s6, rfl⟩
    have hi : i < n := by simpa using hi
    have hl : (vecs p i).length * p ≤ 125 := by
      rw [vecs_len, ← Nat.pow_succ]
      exact Nat.le_trans (Nat.pow_le_pow_right (by have := pr_gt p; omega) (by omega)) h49
    simp
    refine forGo_Ni (fun j (L : List (Vc p)) r => L.length = j * p ∧ ∃ s5 s6, r = [.p (.int p), .p (.int n), .p (.lst ((vecs p i).map row)), .p (.int (k : Int)), .p (.lst (L.map row)), s5, s6]) (fun L x => L ++ (List.finRange p).map fun b => x ++ [b]) [] ⟨by simp, _, _, rfl⟩ ?_ ?_
    · rintro j L x r hx hj ⟨hL, s5, s6, rfl⟩
      have xl := vecs_mem.mp hx
      have bl : (j + 1) * p ≤ (vecs p i).length * p := Nat.mul_le_mul_right _ (by omega)
      have bl2 : (j + 1) * p = j * p + p := Nat.succ_mul ..
      simp
      rw [if_pos (by omega), if_pos (sz_small (by omega)), lcGo_E fun k : Nat => row (x ++ [fi p k])]
      · simp [sz_small (show L.length + p ≤ 1000 by omega)]
        refine ⟨by omega, ?_⟩
        rw [fin_range, List.map_map]
        rfl
      · intro k hk
        have hk := List.mem_range.mp hk
        refine ⟨_, rfl, rfl, ?_⟩
        have e1 : fd (fi p (k : Int)) = .int (k : Int) := by
          show D.int _ = _
          rw [fi_val, Int.emod_eq_of_lt (by omega) (by omega)]
        simp [s1]
        show dAdd (.tup (x.map fd)) (.tup [.int (k : Int)]) w = _
        rw [ev_addT, if_pos (by simpa using sz_small (show x.length + 1 ≤ 1000 by omega)), ← e1]
        show Out.ok (D.tup _) w = Out.ok (D.tup _) w
        rw [List.map_append]
        rfl
    · rintro r' ⟨hL, s5, s6, rfl⟩
      rw [foldl_app, List.nil_append]
      simp
      rfl
  · rintro r' ⟨hF, s3, s4, s5, s6, rfl⟩
    rw [hF]
    simp
theorem lsize_ev {k : Nat} (hk : k ≤ 20) (m0 : Int) (hm0 : m0 = ((p ^ k : Nat) : Int)) : m_law_size a [.int p, .int m0] w = .ok (.int (k : Int)) w := by
  have hp7 := p_le7 (p := p)
  have hp2 := pr_gt p
  have hp0 := p_pos' (p := p)
  simp [m_law_size, g_law_size]
  refine forGo_Bi (fun i (_ : Unit) r => ∃ s3 m f, r = [.p (.int p), .p (.int m), .p (.int f), s3] ∧ m = ((p ^ (k - i) : Nat) : Int) ∧ f = ((min i k : Nat) : Int)) (fun _ _ => ()) () ⟨_, _, _, rfl, hm0, by simp⟩ ?_ ?_
  · rintro i _ b r hb hi ⟨s3, m, f, rfl, hm, hf⟩
    by_cases q : i < k
    · obtain ⟨j, hj⟩ : ∃ j, k - i = j + 1 := ⟨k - i - 1, by omega⟩
      have e1 : (1 : Int) < m := by
        have : 1 < p ^ (k - i) := Nat.one_lt_pow (by omega) (by omega)
        omega
      have e2 : m / (p : Int) = ((p ^ (k - (i + 1)) : Nat) : Int) := by
        rw [hm, hj, show k - (i + 1) = j by omega, Nat.pow_succ]
        rw [Int.natCast_mul, Int.mul_ediv_cancel _ (by omega)]
      simp [e1]
      rw [if_pos (by omega)]
      simp
      exact ⟨by rw [e2]; simp, by omega⟩
    · have e1 : ¬ (1 : Int) < m := by
        rw [hm, show k - i = 0 by omega]
        simp
      simp [e1]
      exact ⟨by rw [hm, show k - (i + 1) = k - i by omega]; simp, by omega⟩
  · rintro r' ⟨s3, m, f, rfl, hm, hf⟩
    simp at hf
    simp
    omega
theorem one_ev {n : Nat} (x : Vc p) (hx : x.length = n) (hn1 : 1 ≤ n) (hn : n ≤ 12) (r : Sl) (hr : ∃ s0 s1 s2 s4 s5 s6 s7 s8, r = [s0, s1, s2, .p (row x), s4, s5, s6, s7, s8]) :
    (tAnd (tE (e2 (eB (aCons (eVar 3) aNil) cMax) (eC (.int 0)) dGt)) (tE (e2 (e2 (eVar 3) (eCallN 1 (m_law_lead a) [] (aCons (eVar 3) aNil)) dIx) (eC (.int 1)) dEq))) r w = .ok (one1 x) w := by
  obtain ⟨s0, s1, s2, s4, s5, s6, s7, s8, rfl⟩ := hr
  obtain ⟨m, h1, h2⟩ := max_pos (w := w) hx hn1
  cases e : lead x with
  | none =>
    have : ¬ (0 : Int) < m := fun z => h2.mp z e
    have o : one1 x = false := by unfold one1; rw [e]
    simp [h1, this, o]
  | some l =>
    have hm : (0 : Int) < m := h2.mpr (by rw [e]; simp)
    obtain ⟨l1, l2, l3⟩ := lead_some e
    have o : one1 x = decide (ent x l = 1) := by unfold one1; rw [e]
    simp [h1, hm, o, llead_ev a x e (by omega), ix_row l1]
    rw [← val1 (p := p)]
    first
      | rfl
      | simp [val_inj]
theorem forGo_Bi' {σ α β : Type} {w : Om} {r : Sl} {s : Sl → Om → Out Res} {bd : D → Sl → Option Sl} {l : List α} {ds : List D} {E : α → D} {k : Res → Om → Out β} {X : Out β} (hds : ds = l.map E) (S : Nat → σ → Sl → Prop) (F : σ → α → σ) (s0 : σ) (h0 : S 0 s0 r) (h : ∀ j x a r, a ∈ l → j < l.length → S j x r → OkN (ocase (bd (E a) r) fun r1 => s r1 w) w (S (j + 1) (F x a)))
    (hk : ∀ r', S l.length (l.foldl F s0) r' → k (.nx r') w = X) : (forGo bd s ds r w).bind k = X := by
  subst hds
  exact forGo_Bi S F s0 h0 h hk
theorem eq_ones {α : Type} {l : List α} : D.eq? (.lst (l.map fun _ => D.int 1)) (.lst []) = some l.isEmpty := by
  rw [eq?_dec (P := l = [])]
  · cases l <;> simp
  · simp [plN]
  · simp [plN]
  · rw [lst_inj, List.map_eq_nil_iff]
def ldI (S : List (Vc p)) : List D := (S.map fun b => (ld b : Int)).map .int
def stI (p : Nat) [LA.Pr p] (L S : List (Vc p)) (i : Nat) (T : List (Vc p)) (r : Sl) : Prop := ∃ s3 s6 s7 s8, r = [.p (.int p), .p (.lst (L.map row)), .o ((ones L).map row), s3, .p (.lst (ldI S)), .p (.lst (T.map row)), s6, s7, s8] ∧ T.length = i
theorem foldl_snoc {α : Type} : ∀ (S T : List α), S.foldl (fun T b => T ++ [b]) T = T ++ S
  | [], T => by simp
  | b :: S, T => by rw [List.foldl_cons, foldl_snoc]; simp
theorem lstairs_ev {n : Nat} {L S : List (Vc p)} (hn1 : 1 ≤ n) (hn : n ≤ 12) (hL : L.length ≤ 125) (hO : (ones L).length < 64) (St : Stair n S) (hA : All n S L) : m_law_stairs a [.int p, .lst (L.map row)] w = .ok (tab S) w := by
  have lenL : ∀ x ∈ L, x.length = n := fun x hx => ((hA.mem x).mp hx).len St.len
  have lO : (ones L).length ≤ 125 := Nat.le_trans (List.length_filter_le _ _) hL
  have hS := len_le St.toEch
  simp [m_law_stairs, g_law_stairs, sz_small (show L.length ≤ 1000 by omega)]
  rw [lcGo_Ef one1 row]
  · have e0 : L.filter one1 = ones L := rfl
    rw [e0]
    simp [sz_small (show (ones L).length ≤ 1000 by omega)]
    rw [lcGo_E fun x : Vc p => .int (ld x : Int)]
    · have e1 : setSort ((ones L).map fun x => (ld x : Int)) = S.map fun b => (ld b : Int) := by
        refine lt_ext (setSort_lt _) (List.pairwise_map.mpr (St.ord.imp fun h => by omega)) fun z => ?_
        rw [setSort_mem, List.mem_map, List.mem_map]
        constructor
        · rintro ⟨x, hx, rfl⟩
          obtain ⟨_, _, _, _, b, hb, e⟩ := ones_lead St.toEch hA hx
          exact ⟨b, hb, by rw [e]⟩
        · rintro ⟨b, hb, rfl⟩
          exact ⟨b, ones_mem St.toEch hA b hb, rfl⟩
      have e2 : ((ones L).map fun x => D.int (ld x : Int)) = ((ones L).map fun x => (ld x : Int)).map D.int := by rw [List.map_map]; rfl
      rw [e2]
      simp [show (ones L).length < 64 by omega, e1, -List.map_map, rel]
      rw [show (S.map fun b => (ld b : Int)).map D.int = ldI S from rfl]
      have hld : ldI S = S.map fun b => .int (ld b : Int) := by unfold ldI; rw [List.map_map]; rfl
      refine forGo_Bi' hld (stI p L S) (fun T b => T ++ [b]) [] ⟨_, _, _, _, rfl, rfl⟩ ?_ ?_
      · rintro i T b r hb hi ⟨s3, s6, s7, s8, rfl, hT⟩
        have hbl := St.len b hb
        simp [sz_small (show (ones L).length ≤ 1000 by omega)]
        rw [lcGo_Ef (fun x : Vc p => decide (ld x = ld b)) row]
        · simp
          have nl : ((ones L).filter fun x => decide (ld x = ld b)).length ≤ 125 := Nat.le_trans (List.length_filter_le _ _) lO
          rw [if_pos (sz_small (by omega)), lcGo_Ef (fun x : Vc p => S.all fun c => decide (ld c = ld b) || decide (ent x (ld c) = 0)) row]
          · rw [List.filter_filter]
            have o1 := ones_one St.toEch hA hb
            have o2 : (ones L).filter (fun x => (S.all fun c => decide (ld c = ld b) || decide (ent x (ld c) = 0)) && decide (ld x = ld b)) = [b] := by
              rw [← o1]
              apply List.filter_congr
              intro x _
              rw [Bool.and_comm]
            rw [o2]
            have hi : i < S.length := hi
            simp [sz_small (show T.length + 1 ≤ 1000 by omega)]
            exact ⟨_, _, _, _, by rw [List.map_append]; rfl, by simp [hT]⟩
          · intro x hx
            have hx' := (List.mem_filter.mp hx).1
            obtain ⟨h1, h2, h3, h4, h5⟩ := ones_lead St.toEch hA hx'
            refine ⟨_, rfl, ?_, fun _ => by simp⟩
            simp [hld, sz_small (show S.length ≤ 1000 by omega)]
            rw [lcGo_Ef (fun c : Vc p => !(decide (ld c = ld b) || decide (ent x (ld c) = 0))) fun _ => .int 1]
            · simp only [Out.bind_ok, eq_ones, ev_ofB, bcase_bl]
              congr 1
              rw [Bool.eq_iff_iff, List.isEmpty_iff, List.filter_eq_nil_iff, List.all_eq_true]
              refine forall_congr' fun c => forall_congr' fun _ => ?_
              cases (decide (ld c = ld b) || decide (ent x (ld c) = 0)) <;> simp
            · intro c hc
              have hcl := St.toEch.lt hc
              refine ⟨_, rfl, ?_, fun _ => rfl⟩
              simp [ix_row (show ld c < x.length by omega)]
              by_cases q : ld c = ld b
              · simp [q]
              · have q' : ¬ (ld c : Int) = (ld b : Int) := by omega
                simp [q, q']
        · intro x hx
          obtain ⟨h1, h2, h3, h4, h5⟩ := ones_lead St.toEch hA hx
          refine ⟨_, rfl, ?_, fun _ => by simp⟩
          simp [llead_ev a x h1 (by omega)]
          omega
      · rintro r' ⟨s3, s6, s7, s8, rfl, hT⟩
        rw [foldl_snoc]
        simp
    · intro x hx
      obtain ⟨h1, h2, h3, h4, h5⟩ := ones_lead St.toEch hA hx
      refine ⟨_, rfl, rfl, ?_⟩
      simp [llead_ev a x h1 (by omega)]
  · intro x hx
    exact ⟨_, rfl, one_ev a x (lenL x hx) hn1 hn _ ⟨_, _, _, _, _, _, _, _, rfl⟩, fun _ => by simp⟩
end
end K03

set_option Elab.async false
set_option linter.all false
set_option maxRecDepth 100000
set_option maxHeartbeats 1000000
namespace K03
open PySem PySem.Spec L2 DL LA
section
variable {p : Nat} [hp : LA.Pr p] {w w0 : Om} (a : Ad) {h : Addr} {E : Exn → Sl → Om → Prop}
theorem unit_ev {n i : Nat} (hn : n ≤ 1000) : m_unit a [.int n, .int i] w = .ok (row (un p n i)) w := by
  simp [m_unit, g_unit]
  rw [if_pos (by omega), if_pos (sz_small hn), lcGo_E fun j : Nat => fd (if j = i then (1 : _root_.Fin p) else 0)]
  · simp
    unfold un row
    rw [List.map_map]
    rfl
  · intro j hj
    refine ⟨_, rfl, rfl, ?_⟩
    simp
    by_cases e : j = i
    · subst e
      simp
      exact (val1 (p := p)).symm
    · have e' : ¬ (j : Int) = (i : Int) := by omega
      simp [e, e']
      first
        | done
        | exact (val0 (p := p)).symm
theorem sum_sm' {f g : Nat → _root_.Fin p} : ∀ n : Nat, ((List.range n).map fun i => ((f i).val : Int) * ((g i).val : Int)).sum % p = ((sm n fun i => f i * g i).val : Int) := by
  intro n
  rw [val_fi]
  congr 2
  induction n with
  | zero => simp [sm, fi_0]
  | succ n ih =>
    rw [List.range_succ, List.map_append, List.sum_append, fi_add, ih]
    simp [sm, fi_mul, fi_of]
theorem behind_ev {n : Nat} (x : Vc p) (S : List (Vc p)) (hn1 : 1 ≤ n) (hn : n ≤ 1000) (hS : Rs n S) (hl : S.length = n) (hx : x.length = n) : m_behind a [.int p, row x, tab S] w = .ok (row (bhd x S n)) w := by
  have h0 : ∀ w, dIx (tab S) (.int 0) w = .ok (row S[0]) w := fun w => ix_tab (w := w) (i := 0) (by omega)
  have l0 : S[0].length = n := hS _ (List.getElem_mem _)
  simp [m_behind, g_behind, h0, l0]
  rw [if_pos (by omega), if_pos (sz_small hn), lcGo_E fun j : Nat => fd (sm S.length fun i => ent x i * ent (S.getD i []) j)]
  · simp
    unfold bhd row
    rw [List.map_map]
    rfl
  · intro j hj
    have hj := List.mem_range.mp hj
    refine ⟨_, rfl, rfl, ?_⟩
    simp [hl]
    rw [if_pos (by omega), if_pos (sz_small hn), lcGo_E fun i : Nat => .int (((ent x i).val : Int) * ((ent (gt S i) j).val : Int))]
    · rw [show (fun i : Nat => D.int (((ent x i).val : Int) * ((ent (gt S i) j).val : Int))) = D.int ∘ fun i : Nat => ((ent x i).val : Int) * ((ent (gt S i) j).val : Int) from rfl, ← List.map_map]
      simp only [Out.bind_ok, relK_o, ev_sum]
      simp [p_pos]
      exact sum_sm' (f := fun i => ent x i) (g := fun i => ent (gt S i) j) n
    · intro i hi
      have hi := List.mem_range.mp hi
      have hi' : i < S.length := by omega
      refine ⟨_, rfl, rfl, ?_⟩
      have e1 : ∀ w, dIx (tab S) (.int (i : Int)) w = .ok (row (gt S i)) w := fun w => ix_tabD hi'
      have l1 : (gt S i).length = n := hS _ (getD_mem hi')
      simp [ix_row (show i < x.length by omega), e1, ix_row (show j < (gt S i).length by omega)]
      rw [ev_mul]
      have := fin_lt (ent x i)
      omega
theorem app_rows {A B : List (Vc p)} : dAdd (.lst (A.map row)) (.lst (B.map row)) w = if A.length + B.length ≤ sizeLine then .ok (.lst ((A ++ B).map row)) w else .stuck := by
  simp
theorem eq_rows {x y : List (Vc p)} : D.eq? (.lst (x.map row)) (.lst (y.map row)) = some (decide (x = y)) :=
  eq?_dec (by simp [plN]; exact fun r hr => pl_row) (by simp [plN]; exact fun r hr => pl_row) (by
    rw [lst_inj]
    exact List.map_inj_right fun a b e => row_inj.mp e)
theorem grown_go {n m : Nat} (hn1 : 1 ≤ n) (hn : n ≤ 12) (hm : n ≤ m) {M : Vc p → Vc p} (L : Lin n M) {mv : List D → Om → Out D} {cs : List D} {w : Om} {f : Addr} (hf : fnAtW w f cN = true) (hmv : ∀ x, x.length = n → mv (row x :: cs) w = .ok (row (M x)) w) (R : List (Vc p)) (hR : Rs n R) {d1 : D} :
    ∀ (k : Nat) (S : List (Vc p)) (s4 s5 : DL.Slot), Grown n M R S → n < S.length + k →
      whGo (tTru (eC (.bl true))) (sCons
 (sAsg 4 (seP (eCallN 2 (m_reduced a) [] (aCons (eVar 0) (aCons (e2 (eVar 3) (eRel (seLc [5] (iSeq (eVar 3)) (bName 5) tYesD (eCallC 2 cN 1 cs mv (aCons (eVar 5) aNil)))) dAdd) aNil)))))
 (sCons
 (sIf (tE (e2 (eVar 4) (eVar 3) dEq)) (sRet (eVar 3)) sNil)
 (sAsg 3 (seP (eVar 4))))) k [.p (.int p), .p d1, .p (.ref f), .p (.lst (S.map row)), s4, s5] w = .ok (.rt (.lst ((stairs (orb M m R)).map row))) w
  | 0, S, s4, s5, G, hk => by
    have := len_le G.st.toEch
    omega
  | k + 1, S, s4, s5, G, hk => by
    have hS := len_le G.st.toEch
    have hQ := next_rs L G.st
    have e0 : ∀ w, m_reduced a [.int p, .lst ((S ++ S.map M).map row)] w = .ok (.lst ((LA.next M S).map row)) w := fun w => reduced_ev a hn1 (by omega) _ (S ++ S.map M) hQ rfl
    have lc : ∀ r2 s5, r2 = [.p (.int p), .p d1, .p (.ref f), .p (.lst (S.map row)), s4, s5] → lcGo (bName 5) tYesD (eCallC 2 cN 1 cs mv (aCons (eVar 5) aNil)) r2 (S.map row) w = .ok (S.map fun x => row (M x)) w := by
      rintro r2 s5 rfl
      refine lcGo_E (fun x => row (M x)) fun x hx => ⟨_, rfl, rfl, ?_⟩
      simp [hf, hmv x (G.st.len x hx)]
    have lm : (S.map fun x => row (M x)) = (S.map M).map row := by rw [List.map_map]; rfl
    by_cases q : LA.next M S = S
    · refine whGo_rt ?_ ?_
      · simp
      · have en : stairs (orb M m R) = S := stairs_eq (orb_rs L hR) G.st (G.end L hR q hm (by omega))
        simp [sz_small (show S.length ≤ 1000 by omega)]
        rw [lc _ _ rfl, lm]
        simp only [Out.bind_ok, relK_o]
        rw [if_pos (by rw [List.length_map, List.length_map]; exact sz_small (by omega)), ← List.map_append]
        simp [-List.map_append, e0, eq_rows, q, en]
    · rw [whGo_go (r2 := [.p (.int p), .p d1, .p (.ref f), .p (.lst ((LA.next M S).map row)), .p (.lst ((LA.next M S).map row)), s5])]
      · exact grown_go hn1 hn hm L hf hmv R hR k _ _ _ (G.next L hR) (by have := next_lt L G.st q; omega)
      · simp
      · simp [sz_small (show S.length ≤ 1000 by omega)]
        rw [lc _ _ rfl, lm]
        simp only [Out.bind_ok, relK_o]
        rw [if_pos (by rw [List.length_map, List.length_map]; exact sz_small (by omega)), ← List.map_append]
        simp [-List.map_append, e0, eq_rows, q]
theorem grown_ev {n m : Nat} (hn1 : 1 ≤ n) (hn : n ≤ 12) (hm : n ≤ m) {M : Vc p → Vc p} (L : Lin n M) {mv : List D → Om → Out D} {cs : List D} {w : Om} {f : Addr} (hf : fnAtW w f cN = true) (hmv : ∀ x, x.length = n → mv (row x :: cs) w = .ok (row (M x)) w) (R : List (Vc p)) (hR : Rs n R) :
    m_grown a cs mv [.int p, .lst (R.map row), .ref f] w = .ok (.lst ((stairs (orb M m R)).map row)) w := by
  have e0 : ∀ w, m_reduced a [.int p, .lst (R.map row)] w = .ok (.lst ((stairs R).map row)) w := fun w => reduced_ev a hn1 (by omega) _ R hR rfl
  simp [m_grown, g_grown, e0]
  rw [grown_go a hn1 hn hm L hf hmv R hR 100000 _ _ _ (grown0 hR) (by omega)]
  simp
/-- what can be reached; what can be seen; what never; what is lost -/
def rch (M : Mc p) : List (Vc p) := stairs (orb M.st 4 M.W)
def frm (M : Mc p) : List (Vc p) := stairs (orb (fun x => bhd x M.S M.n) 4 M.T)
def uns (M : Mc p) : List (Vc p) := stairs (null M.n (frm M))
def los (M : Mc p) : List (Vc p) := bth M.n (rch M) (uns M)
theorem lin_st {M : Mc p} (ok : M.Ok) : Lin M.n M.st := lin_tms ok.full.rs ok.full.sz
theorem lin_bh {M : Mc p} (ok : M.Ok) : Lin M.n (fun x => bhd x M.S M.n) := lin_bhd ok.full.sz
theorem rch_stair {M : Mc p} (ok : M.Ok) : Stair M.n (rch M) := (stairs_ok (orb_rs (lin_st ok) ok.wr)).1
theorem frm_stair {M : Mc p} (ok : M.Ok) : Stair M.n (frm M) := (stairs_ok (orb_rs (lin_bh ok) ok.tr)).1
theorem uns_stair {M : Mc p} : Stair M.n (uns M) := (stairs_ok null_rs).1
theorem los_stair {M : Mc p} : Stair M.n (los M) := bth_stair
theorem list_tab {t : List (Vc p)} (h : t.length ≤ 1000) : cList [tab t] w = .ok (.lst (t.map row)) w := by
  have := sz_small h
  simp [cList, this]
theorem reached_of_ev {M : Mc p} (ok : M.Ok) : Evs (m_reached_of a [M.d] w) (.lst ((rch M).map row)) w := by
  have h1 := ok.n1
  have h4 := ok.n4
  have w4 := ok.w4
  have hc : capsS [.p M.d] [0] = some [M.d] := rfl
  simp [m_reached_of, g_reached_of, hc, list_tab (show M.W.length ≤ 1000 by omega)]
  refine Evs.frs (n0 := cN) fun f hf => ?_
  refine grown_ev a h1 (by omega) h4 (lin_st ok) (by simp) (fun x hx => ?_) M.W ok.wr
  simp [fnE, lam_reached_of_0, slots0, stirred_ev a M ok]
theorem forms_of_ev {M : Mc p} (ok : M.Ok) : Evs (m_forms_of a [M.d] w) (.lst ((frm M).map row)) w := by
  have h1 := ok.n1
  have h4 := ok.n4
  have t4 := ok.t4
  have hc : capsS [.p M.d] [0] = some [M.d] := rfl
  simp [m_forms_of, g_forms_of, hc, list_tab (show M.T.length ≤ 1000 by omega)]
  refine Evs.frs (n0 := cN) fun f hf => ?_
  refine grown_ev a h1 (by omega) h4 (lin_bh ok) (by simp) (fun x hx => ?_) M.T ok.tr
  simp [fnE, lam_forms_of_0, slots0, behind_ev a x M.S h1 (show M.n ≤ 1000 by omega) ok.full.rs ok.full.sz hx]
theorem unseen_of_ev {M : Mc p} (ok : M.Ok) : Evs (m_unseen_of a [M.d] w) (.lst ((uns M).map row)) w := by
  have h1 := ok.n1
  have h4 := ok.n4
  simp [m_unseen_of, g_unseen_of]
  refine Evs.bind (Evs.at (forms_of_ev a ok)) ?_
  have e : ∀ w, m_noughts a [.int p, .lst ((frm M).map row), .int M.n] w = .ok (.lst ((uns M).map row)) w := fun w => by
    have := noughts_ev a (w := w) (.lst ((frm M).map row)) (frm M) h1 (by omega) (frm_stair ok).len rfl
    rw [stairs_self (frm_stair ok)] at this
    exact this
  simp [ok.full.sz, e]
  exact Evs.ok
theorem both_ev {n : Nat} (hn1 : 1 ≤ n) (hn : n ≤ 12) (B C : List (Vc p)) (hB : Rs n B) (hC : Rs n C) : m_both a [.int p, .lst (B.map row), .lst (C.map row), .int n] w = .ok (.lst ((bth n B C).map row)) w := by
  have e1 : ∀ w, m_noughts a [.int p, .lst (B.map row), .int n] w = .ok (.lst ((stairs (null n (stairs B))).map row)) w := fun w => noughts_ev a _ B hn1 hn hB rfl
  have e2 : ∀ w, m_noughts a [.int p, .lst (C.map row), .int n] w = .ok (.lst ((stairs (null n (stairs C))).map row)) w := fun w => noughts_ev a _ C hn1 hn hC rfl
  have s1 := (stairs_ok (null_rs (p := p) (n := n) (S := stairs B))).1
  have s2 := (stairs_ok (null_rs (p := p) (n := n) (S := stairs C))).1
  have l1 := len_le s1.toEch
  have l2 := len_le s2.toEch
  have e3 : ∀ w, m_noughts a [.int p, .lst (((stairs (null n (stairs B)) ++ stairs (null n (stairs C)))).map row), .int n] w = .ok (.lst ((bth n B C).map row)) w := fun w => noughts_ev a _ _ hn1 hn (Rs.app s1.len s2.len) rfl
  have ap : ∀ w, dAdd (.lst ((stairs (null n (stairs B))).map row)) (.lst ((stairs (null n (stairs C))).map row)) w = .ok (.lst ((stairs (null n (stairs B)) ++ stairs (null n (stairs C))).map row)) w := fun w => by
    rw [app_rows, if_pos (sz_small (by omega))]
  have e4 : stairs (null n (stairs B)) ++ stairs (null n (stairs C)) = [] → bth n B C = idt p n := fun q => by
    unfold bth
    rw [q, stairs_null_nil]
  generalize stairs (null n (stairs B)) ++ stairs (null n (stairs C)) = A at *
  simp [m_both, g_both, e1, e2, ap, -ev_addL]
  by_cases q : A = []
  · rw [e4 q]
    subst q
    simp
    rw [if_pos (by omega), if_pos (sz_small (by omega)), lcGo_E fun j : Nat => row (un p n j)]
    · simp
      unfold idt
      rw [List.map_map]
      rfl
    · intro j hj
      refine ⟨_, rfl, rfl, ?_⟩
      simp [unit_ev a (p := p) (show n ≤ 1000 by omega)]
  · simp [e3, q]
theorem lost_of_ev {M : Mc p} (ok : M.Ok) : Evs (m_lost_of a [M.d] w) (.lst ((los M).map row)) w := by
  have h1 := ok.n1
  have h4 := ok.n4
  simp [m_lost_of, g_lost_of]
  refine Evs.bind (Evs.at (reached_of_ev a ok)) ?_
  refine Evs.bind (Evs.at (unseen_of_ev a ok)) ?_
  simp [ok.full.sz, both_ev a h1 (show M.n ≤ 12 by omega) (rch M) (uns M) (rch_stair ok).len uns_stair.len]
  exact Evs.ok
theorem keeps_of_ev {M : Mc p} (ok : M.Ok) : Evs (m_keeps_of a [M.d] w) (.int ((rch M).length - (los M).length)) w := by
  simp [m_keeps_of, g_keeps_of]
  refine Evs.bind (Evs.at (reached_of_ev a ok)) ?_
  simp
  refine Evs.bind (Evs.at (lost_of_ev a ok)) ?_
  simp
  exact Evs.ok
theorem reached_ev {M : Mc p} (ok : M.Ok) : Evs (m_reached a [M.d] w) (tab (rch M)) w := by
  simp [m_reached, g_reached, need_machine_ok a M ok]
  refine Evs.bind (Evs.at (reached_of_ev a ok)) ?_
  simp
  exact Evs.ok
theorem unseen_ev {M : Mc p} (ok : M.Ok) : Evs (m_unseen a [M.d] w) (tab (uns M)) w := by
  simp [m_unseen, g_unseen, need_machine_ok a M ok]
  refine Evs.bind (Evs.at (unseen_of_ev a ok)) ?_
  simp
  exact Evs.ok
theorem lost_ev {M : Mc p} (ok : M.Ok) : Evs (m_lost a [M.d] w) (tab (los M)) w := by
  simp [m_lost, g_lost, need_machine_ok a M ok]
  refine Evs.bind (Evs.at (lost_of_ev a ok)) ?_
  simp
  exact Evs.ok
theorem keeps_ev {M : Mc p} (ok : M.Ok) : Evs (m_keeps a [M.d] w) (.int ((rch M).length - (los M).length)) w := by
  simp [m_keeps, g_keeps, need_machine_ok a M ok]
  exact Evs.at (keeps_of_ev a ok)
end
end K03

set_option Elab.async false
set_option linter.all false
set_option maxRecDepth 100000
set_option maxHeartbeats 1000000
namespace K03
open PySem PySem.Spec L2 DL LA
section
variable {p : Nat} [hp : LA.Pr p] {w w0 : Om} (a : Ad) {h : Addr} {E : Exn → Sl → Om → Prop}
theorem st_len {M : Mc p} (ok : M.Ok) (x : Vc p) : (M.st x).length = M.n := by simp [Mc.st, ok.full.sz]
theorem lreached_ev {M : Mc p} (ok : M.Ok) (h125 : p ^ M.n ≤ 125) : m_law_reached a [M.d] w = .ok (.lst ((asort (spn M.n (orb M.st 4 M.W))).map row)) w := by
  have h1 := ok.n1
  have h4 := ok.n4
  have w4 := ok.w4
  simp [m_law_reached, g_law_reached, ok.full.sz, rep_row (p := p) h1 (show M.n ≤ 1000 by omega), sz_small (show 1 ≤ 1000 by omega)]
  refine forGo_Bi (fun i (L : List (Vc p)) r => L.length = 4 * i ∧ ∃ s3 s4 s5, r = [.p M.d, .o (L.map row), .p (.lst [row (zer p M.n)]), s3, s4, s5]) (fun L x => L ++ (List.range 4).map fun t => its M.st t x) [] ⟨rfl, _, _, _, rfl⟩ ?_ ?_
  · rintro i L x r hx hi ⟨hL, s3, s4, s5, rfl⟩
    have hi : i < M.W.length := by simpa using hi
    simp
    refine forGo_Mi (fun j (q : List (Vc p) × Vc p) r => q.1.length = 4 * i + j ∧ q.1 = L ++ (List.range j).map (fun t => its M.st t x) ∧ q.2 = its M.st j x ∧ ∃ s5, r = [.p M.d, .o (q.1.map row), .p (.lst [row (zer p M.n)]), .p (row x), .p (row q.2), s5]) (fun q _ => (q.1 ++ [q.2], M.st q.2)) (L, x) ⟨hL, by simp, rfl, _, rfl⟩ ?_ ?_
    · rintro j ⟨q, y⟩ k r hk hj ⟨hq, hq2, hy, s5, rfl⟩
      have hj : j < 4 := by simpa using hj
      simp at hq hq2 hy
      simp [lstirred_ev a M ok y, show q.length < sizeLine from Nat.lt_of_lt_of_le (show q.length < 1000 by omega) (sz_small (Nat.le_refl _))]
      refine ⟨by omega, ?_, by rw [hy]; rfl⟩
      rw [List.range_succ, List.map_append, ← List.append_assoc, ← hq2, hy]
      rfl
    · rintro r' ⟨hq, hq2, hy, s5, rfl⟩
      simp only [List.length_range] at hq hq2
      refine ⟨by simp [hL]; omega, _, _, s5, by rw [hq2, List.map_append, List.map_map]⟩
  · rintro r' ⟨hL, s3, s4, s5, rfl⟩
    rw [foldl_app, List.nil_append, show (M.W.flatMap fun x => (List.range 4).map fun t => its M.st t x) = orb M.st 4 M.W from rfl]
    have e := lspan_ev a (w := w) (.lst ((orb M.st 4 M.W).map row)) (orb M.st 4 M.W) h1 (by omega) h125 (orb_rs (lin_st ok) ok.wr) rfl
    simp [rel, ok.full.sz, e]
theorem max_lst {v : List (_root_.Fin p)} : cMax [lrow v] w = cMax [row v] w := (rfl)
theorem max_zero {v : List (_root_.Fin p)} (hv : 1 ≤ v.length) : ∃ m : Int, cMax [lrow v] w = .ok (.int m) w ∧ (m = 0 ↔ ∀ b ∈ v, b = 0) := by
  rw [max_lst]
  match v, hv with
  | b :: x, _ =>
    refine ⟨_, max_row, ?_⟩
    obtain ⟨h1, h2, h3⟩ := maxI_ge (b.val : Int) (x.map fun b => (b.val : Int))
    constructor
    · intro e c hc
      have : (c.val : Int) ≤ maxI (b.val : Int) (x.map fun b => (b.val : Int)) := by
        rcases List.mem_cons.mp hc with rfl | hc
        · exact h1
        · exact h2 _ (List.mem_map_of_mem (f := fun b : _root_.Fin p => (b.val : Int)) hc)
      rw [e] at this
      refine Fin.ext ?_
      have := val0 (p := p)
      omega
    · intro z
      rcases List.mem_cons.mp h3 with e | e
      · rw [e, z b (List.mem_cons_self ..)]
        exact val0
      · obtain ⟨c, hc, e⟩ := List.mem_map.mp e
        rw [← e, z c (List.mem_cons_of_mem _ hc)]
        exact val0
def hid (M : Mc p) (x : Vc p) : Bool := decide (∀ r ∈ orb (fun x => bhd x M.S M.n) 4 M.T, dot r x = 0)
theorem hid_iff {M : Mc p} (ok : M.Ok) {x : Vc p} (hx : x.length = M.n) : hid M x = true ↔ ∀ t, t < 4 → ∀ s ∈ M.T, dot s (its M.st t x) = 0 := by
  unfold hid
  rw [decide_eq_true_iff]
  constructor
  · intro h t ht s hs
    have := h _ (orb_mem.mpr ⟨s, hs, t, ht, rfl⟩)
    rw [dot_its ok.full.rs ok.full.sz (ok.tr s hs) t x hx] at this
    exact this
  · intro h r hr
    obtain ⟨s, hs, t, ht, rfl⟩ := orb_mem.mp hr
    rw [dot_its ok.full.rs ok.full.sz (ok.tr s hs) t x hx]
    exact h t ht s hs
theorem hid_fold {M : Mc p} : ∀ (l L : List (Vc p)), l.foldl (fun L x => if hid M x = true then L ++ [x] else L) L = L ++ l.filter (hid M)
  | [], L => by simp
  | x :: l, L => by
    rw [List.foldl_cons, hid_fold l]
    by_cases q : hid M x = true
    · rw [if_pos q, List.filter_cons_of_pos q]
      simp
    · rw [if_neg q, List.filter_cons_of_neg q]
theorem lunseen_ev {M : Mc p} (ok : M.Ok) (h125 : p ^ M.n ≤ 125) : m_law_unseen a [M.d] w = .ok (.lst (((vecs p M.n).filter (hid M)).map row)) w := by
  have h1 := ok.n1
  have h4 := ok.n4
  have t1 := ok.t1
  have t4 := ok.t4
  have vl : (vecs p M.n).length ≤ 125 := by rw [vecs_len]; exact h125
  simp [m_law_unseen, g_law_unseen, ok.full.sz, lrows_ev a (show M.n ≤ 12 by omega) h125]
  refine forGo_Bi (fun i (L : List (Vc p)) r => L.length ≤ i ∧ ∃ s2 s3 s4 s5 s6, r = [.p M.d, .o (L.map row), s2, s3, s4, s5, s6]) (fun L x => if hid M x = true then L ++ [x] else L) [] ⟨by simp, _, _, _, _, _, rfl⟩ ?_ ?_
  · rintro i L x r hx hi ⟨hL, s2, s3, s4, s5, s6, rfl⟩
    have hxl := vecs_mem.mp hx
    simp
    refine forGo_Ni (fun j (q : List (_root_.Fin p) × Vc p) r => q.1.length = j * M.T.length ∧ q.2 = its M.st j x ∧ ((∀ b ∈ q.1, b = 0) ↔ ∀ t, t < j → ∀ s ∈ M.T, dot s (its M.st t x) = 0) ∧ ∃ s5, r = [.p M.d, .o (L.map row), .p (row x), .p (lrow q.1), .p (row q.2), s5, s6])
      (fun q _ => (q.1 ++ M.T.map fun s => dot s q.2, M.st q.2)) ([], x) ⟨by simp, rfl, by simp, _, rfl⟩ ?_ ?_
    · rintro j ⟨v, y⟩ k r hk hj ⟨hv, hy, hz, s5, rfl⟩
      have hj : j < 4 := by simpa using hj
      simp at hv hy
      have hb : (j + 1) * M.T.length = j * M.T.length + M.T.length := Nat.succ_mul ..
      have hb2 : (j + 1) * M.T.length ≤ 4 * 4 := Nat.mul_le_mul (by omega) t4
      have yl : y.length = M.n := by rw [hy]; exact (lin_st ok).its hxl j
      simp [sz_small (show M.T.length ≤ 1000 by omega)]
      rw [lcGo_E fun s : Vc p => fd (dot s y)]
      · have ap : ∀ w, dAdd (lrow v) (.lst (M.T.map fun s => fd (dot s y))) w = .ok (lrow (v ++ M.T.map fun s => dot s y)) w := fun w => by
          show dAdd (.lst (v.map fd)) (.lst _) w = _
          rw [ev_addL, if_pos (by simp; exact sz_small (show v.length + M.T.length ≤ 1000 by omega))]
          unfold lrow
          rw [List.map_append, List.map_map]
          rfl
        simp [ap, lstirred_ev a M ok y]
        refine ⟨by omega, by rw [hy]; rfl, ?_⟩
        constructor
        · intro h t ht s hs
          rcases Nat.lt_or_ge t j with q | q
          · exact hz.mp (fun b hb => h b (.inl hb)) t q s hs
          · have : t = j := by omega
            subst this
            exact h _ (.inr ⟨s, hs, by rw [hy]⟩)
        · intro h b hb
          rcases hb with hb | ⟨s, hs, rfl⟩
          · exact hz.mpr (fun t ht s hs => h t (by omega) s hs) b hb
          · rw [hy]
            exact h j (by omega) s hs
      · intro s hs
        refine ⟨_, rfl, rfl, ?_⟩
        simp [lmet_ev a s y (show s.length ≤ 1000 by rw [ok.tr s hs]; omega)]
    · rintro r' ⟨hv, hy, hz, s5, rfl⟩
      simp only [List.length_range] at hv hz
      generalize List.foldl (fun (q : List (_root_.Fin p) × Vc p) (_ : Nat) => (q.1 ++ M.T.map fun s => dot s q.2, M.st q.2)) ([], x) (List.range 4) = q at *
      obtain ⟨m, e1, e2⟩ := max_zero (w := w) (show 1 ≤ q.1.length by omega)
      rw [hz, ← hid_iff ok hxl] at e2
      have hi : i < (vecs p M.n).length := by simpa using hi
      by_cases z : hid M x = true
      · have m0 : m = 0 := e2.mpr z
        subst m0
        simp [e1, z, show L.length < sizeLine from Nat.lt_of_lt_of_le (show L.length < 1000 by omega) (sz_small (Nat.le_refl _))]
        omega
      · have m0 : ¬ m = 0 := fun q => z (e2.mp q)
        simp [e1, z, m0]
        omega
  · rintro r' ⟨hL, s2, s3, s4, s5, s6, rfl⟩
    rw [hid_fold, List.nil_append]
    simp
/-- no machines -/
def noMach (M : Mc p) : List D := [.non, .tup [.int p, tab M.S, tab M.W], .tup [.int p, tab M.S, tab M.W, .tup []], .lst [.int p]]
theorem need_machine_no {M : Mc p} (ok : M.Ok) (d : D) (hd : d ∈ noMach M) : ∃ part r, m_need_machine a [d] w = .exc ⟨"BadMachine", [("part", part)]⟩ r w := by
  simp only [noMach, List.mem_cons, List.not_mem_nil, or_false] at hd
  rcases hd with rfl | rfl | rfl | rfl
  · exact ⟨_, _, by simp [m_need_machine, g_need_machine, zipR]; exact ⟨rfl, rfl⟩⟩
  · exact ⟨_, _, by simp [m_need_machine, g_need_machine, zipR]; exact ⟨rfl, rfl⟩⟩
  · have h1 := ok.n1
    have h4 := ok.n4
    have h7 := p_le7 (p := p)
    have h2 := pr_gt p
    have hs := ok.full.sz
    have hp1 : isNumB 2 7 (.int p) = true := by simp [isNumB]; omega
    have e1 := are_rows_tab a (w := w) M.S M.n M.n M.n (by omega) (by omega) ok.full.rs
    have e2 : m_are_rows a [.int p, tab M.W, .int 1, .int 4, .int M.n] w = .ok (.bl true) w := are_rows_tab a (w := w) M.W 1 4 M.n (by have := ok.w1; omega) (by have := ok.w4; omega) ok.wr
    have e3 : m_are_rows a [.int p, .tup [], .int 1, .int 4, .int M.n] w = .ok (.bl false) w := (are_rows_ev a (.tup []) 1 4 M.n (by simp) (by simp)).trans (by simp [areRowsB])
    have e4 := reduced_ev a (w := w) h1 (by omega) (tab M.S) M.S ok.full.rs rfl
    have e5 := ok.full.rank
    exact ⟨_, _, by
      simp [m_need_machine, g_need_machine, is_number_ev, hp1, prime_in, hs, show ¬ ((M.n : Int) < 1) by omega, show (1 : Int) ≤ (M.n : Int) by omega, show (M.n : Int) ≤ 4 by omega, e1, e2, e3, e4, e5, zipR]
      exact ⟨rfl, rfl⟩⟩
  · exact ⟨_, _, by simp [m_need_machine, g_need_machine, zipR]; exact ⟨rfl, rfl⟩⟩
theorem keeps_no {M : Mc p} (ok : M.Ok) (d : D) (hd : d ∈ noMach M) : ∃ part r, m_keeps a [d] w = .exc ⟨"BadMachine", [("part", part)]⟩ r w := by
  obtain ⟨part, r, e⟩ := need_machine_no a (w := w) ok d hd
  exact ⟨part, [.p d], by simp [m_keeps, g_keeps, e]⟩
end
end K03

set_option Elab.async false
set_option linter.all false
set_option maxRecDepth 100000
set_option maxHeartbeats 1000000
namespace K03
open PySem PySem.Spec L2 DL LA
theorem pow125 {p n : Nat} (h : (p : Int) ∈ [(2 : Int), 2, 3, 5]) (hn : n ≤ 3) : p ^ n ≤ 125 := by
  have h2 : p = 2 ∨ p = 3 ∨ p = 5 := by
    simp at h
    omega
  have h3 : p ^ n ≤ p ^ 3 := Nat.pow_le_pow_right (by omega) hn
  rcases h2 with rfl | rfl | rfl <;> simp at h3 <;> omega
theorem holds : ∀ a : Ad, LawHolds N_law.length (g_law a) := by
  intro a
  refine ⟨fun ns h63 hbits => (?_ : Out.Wp _ _ _).run⟩
  have s1 := sz_small (n := 1) (by omega)
  have s2 := sz_small (n := 2) (by omega)
  have s3 := sz_small (n := 3) (by omega)
  have s4 := sz_small (n := 4) (by omega)
  simp [g_law, s4]
  rw [Out.wp_frs]
  intro h hn
  have d0 : Dw h (w00.set h (.lst [.fl (ns.map .int), .int 0, .int 7603, .int 0])) (w00.set h (.lst [.fl (ns.map .int), .int 0, .int 7603, .int 0])) := Dw.refl ⟨ns, 0, 7603, 0, Om.set_same, by omega⟩
  generalize w00.set h (.lst [.fl (ns.map .int), .int 0, .int 7603, .int 0]) = w1 at d0
  refine sat_then (sat_at (machine_sat a [2, 2, 3, 5] (by simp) (by simp) (by simp) 3 2 (by omega) (by omega) (by omega) (by omega) d0) fun _ _ z => z) ?_
  rintro _ w2 ⟨p, hp, M, hpL, ok, rfl, hn4, hW, hT, dw⟩
  have on1 := ok.n1
  have ow1 := ok.w1
  have h125 : p ^ M.n ≤ 125 := pow125 hpL hn4
  have hp7 := p_le7 (p := p)
  have hp0 := p_pos' (p := p)
  have hR := orb_rs (lin_st ok) ok.wr (k := 4)
  have hQ := orb_rs (lin_bh ok) ok.tr (k := 4)
  obtain ⟨spA, spl⟩ := spn_all hR
  have canA : All M.n (orb M.st 4 M.W) (asort (spn M.n (orb M.st 4 M.W))) := ⟨(List.mergeSort_perm _ _).nodup_iff.mpr spA.nd, fun x => ((List.mergeSort_perm _ _).mem_iff).trans (spA.mem x)⟩
  have e1 := fun w => lreached_ev a (w := w) ok h125
  have e2 := fun w => lunseen_ev a (w := w) ok h125
  generalize hC : asort (spn M.n (orb M.st 4 M.W)) = C at *
  generalize hN : (vecs p M.n).filter (hid M) = N at *
  have C125 : C.length ≤ 125 := Nat.le_trans (canA.le hR) h125
  have N125 : N.length ≤ 125 := by rw [← hN]; exact Nat.le_trans (List.length_filter_le _ _) (by rw [vecs_len]; exact h125)
  have Nnd : N.Nodup := hN ▸ (vecs_nodup M.n).filter _
  have Nm : ∀ x, x ∈ N ↔ x.length = M.n ∧ ∀ r ∈ orb (fun x => bhd x M.S M.n) 4 M.T, dot r x = 0 := fun x => by
    rw [← hN, List.mem_filter, vecs_mem]
    unfold hid
    rw [decide_eq_true_iff]
  have rS := rch_stair ok
  have uS := uns_stair (M := M)
  have lS := los_stair (M := M)
  have rA : All M.n (rch M) C := canA.eqs (stairs_ok hR).2.symm
  have nA : All M.n (null M.n (frm M)) N := nul_all hQ Nnd Nm
  have uA : All M.n (uns M) N := nA.eqs (stairs_ok null_rs).2.symm
  have lA : All M.n (los M) (C.filter fun x => decide (x ∈ N)) := ⟨rA.nd.filter _, fun x => by
    rw [List.mem_filter, decide_eq_true_iff, rA.mem, uA.mem]
    exact (bth_mem rS.len uS.len).symm⟩
  have rl := rA.length rS.len
  have ll := lA.length lS.len
  rw [stairs_self rS] at rl
  rw [stairs_self lS] at ll
  have rk := len_le rS.toEch
  have uk := len_le uS.toEch
  have lk := len_le lS.toEch
  have B125 : (C.filter fun x => decide (x ∈ N)).length ≤ 125 := Nat.le_trans (List.length_filter_le _ _) C125
  have f1 := fun w => lstairs_ev a (w := w) on1 (show M.n ≤ 12 by omega) C125 (ones_few rS.len rA (by omega) h125) rS rA
  have f2 := fun w => lstairs_ev a (w := w) on1 (show M.n ≤ 12 by omega) N125 (ones_few uS.len uA (by omega) h125) uS uA
  have f3 := fun w => lstairs_ev a (w := w) on1 (show M.n ≤ 12 by omega) B125 (ones_few lS.len lA (by omega) h125) lS lA
  have z1 := fun w => lsize_ev a (p := p) (w := w) (k := (rch M).length) (by omega) (C.length : Int) (by rw [rl])
  have z2 := fun w => lsize_ev a (p := p) (w := w) (k := (los M).length) (by omega) ((C.filter fun x => decide (x ∈ N)).length : Int) (by rw [ll])
  have al0 : ∀ (y : Int) w, m_law_alike a 4 [.int y, .int y] w = .ok (.bl true) w := fun y w => alike_ev a 4 (.int y) rfl
  have al : ∀ w, m_law_alike a 4 [.lst [tab (rch M), tab (uns M), tab (los M)], .lst [tab (rch M), tab (uns M), tab (los M)]] w = .ok (.bl true) w := fun w => alike_ev a 4 _ (by
    have k1 := okA_tab (n := 0) (show (rch M).length ≤ 1000 by omega) fun r hr => by rw [rS.len r hr]; omega
    have k2 := okA_tab (n := 0) (show (uns M).length ≤ 1000 by omega) fun r hr => by rw [uS.len r hr]; omega
    have k3 := okA_tab (n := 0) (show (los M).length ≤ 1000 by omega) fun r hr => by rw [lS.len r hr]; omega
    simp [okA, k1, k2, k3])
  have C0 : C ≠ [] := fun z => by
    have := (rA.mem (zer p M.n)).mpr .zer
    rw [z] at this
    simp at this
  simp [e1, e2, sz_small (show C.length ≤ 1000 by omega)]
  rw [lcGo_Ef (fun x : Vc p => decide (x ∈ N)) row]
  rotate_left
  · intro x hx
    exact ⟨_, rfl, by simp, fun _ => by simp⟩
  simp
  generalize (C.filter fun x => decide (x ∈ N)) = B at *
  refine Evs.wp (Evs.at (reached_ev a ok)) ?_
  refine Evs.wp (Evs.at (unseen_ev a ok)) ?_
  refine Evs.wp (Evs.at (lost_ev a ok)) ?_
  simp [s3, rel, f1, f2, f3, al]
  refine Evs.wp (Evs.at (keeps_ev a ok)) ?_
  simp [z1, z2, al0]
  refine sat_then (forGo_sat' (Q := fun res w => ∃ r, res = .nx r ∧ (∃ s6 s7 s8 s9 s10 s11 s12 s13, r = [.p (.fl (ns.map .int)), .p (.ref h), .p M.d, .p (.int p), .p (.lst (C.map row)), .p (.lst (N.map row)), s6, s7, s8, s9, s10, s11, s12, s13]) ∧ Dw h w1 w)
    (fun r w => (∃ s6 s7 s8 s9 s10 s11 s12 s13, r = [.p (.fl (ns.map .int)), .p (.ref h), .p M.d, .p (.int p), .p (.lst (C.map row)), .p (.lst (N.map row)), s6, s7, s8, s9, s10, s11, s12, s13]) ∧ Dw h w1 w) ⟨⟨_, _, _, _, _, _, _, _, rfl⟩, dw⟩ ?_ fun r w hI => ⟨r, rfl, hI⟩) ?_
  · rintro d r w3 hd ⟨⟨s6, s7, s8, s9, s10, s11, s12, s13, rfl⟩, dw⟩
    obtain ⟨i, hi, rfl⟩ := List.mem_map.mp hd
    simp
    refine sat_then (sat_at (pick_sat a (C.map row) (by simpa using C0) (by simp; omega) dw) fun _ _ z => z) ?_
    rintro _ w4 ⟨hm0, dw⟩
    obtain ⟨m, hm, rfl⟩ := List.mem_map.mp hm0
    refine sat_then (forGo_sat' (Q := fun res w => ∃ r, res = .nx r ∧ (∃ m ∈ C, ∃ s6 s7 s8 s9 s11 s12 s13, r = [.p (.fl (ns.map .int)), .p (.ref h), .p M.d, .p (.int p), .p (.lst (C.map row)), .p (.lst (N.map row)), s6, s7, s8, s9, .p (row m), s11, s12, s13]) ∧ Dw h w1 w)
      (fun r w => (∃ m ∈ C, ∃ s6 s7 s8 s9 s11 s12 s13, r = [.p (.fl (ns.map .int)), .p (.ref h), .p M.d, .p (.int p), .p (.lst (C.map row)), .p (.lst (N.map row)), s6, s7, s8, s9, .p (row m), s11, s12, s13]) ∧ Dw h w1 w) ⟨⟨m, hm, _, _, _, _, _, _, _, rfl⟩, dw⟩ ?_ fun r w hI => ⟨r, rfl, hI⟩) ?_
    · rintro d r w5 hd ⟨⟨m, hm, s6, s7, s8, s9, s11, s12, s13, rfl⟩, dw⟩
      obtain ⟨j, hj, rfl⟩ := List.mem_map.mp hd
      have hms := (canA.mem m).mp hm
      have hml := hms.len hR
      try simp
      refine sat_then (sat_at (taken_p a dw) fun _ _ z => z) ?_
      rintro _ w6 ⟨⟨hd, rfl⟩, dw⟩
      try simp
      refine sat_then (sat_at (taken_sat a M.W.length (by omega) (by omega) dw) fun _ _ z => z) ?_
      rintro _ w7 ⟨v, rfl, v0, v1, dw⟩
      obtain ⟨v, rfl⟩ : ∃ j : Nat, v = j := ⟨v.toNat, by omega⟩
      have l0 : ∀ w, m_law_deed a [M.d, row m, fd hd, .tup [.str "add", .int v]] w = .ok (.tup [row ((Deed.add v).mem M m hd), fd ((Deed.add v).hand M m hd)]) w := fun w => ldeed_ev a M ok m hml hd (.add v) (show v < M.W.length by omega)
      simp [l0, s2]
      refine ⟨⟨_, (canA.mem _).mpr ?_, rfl⟩, dw⟩
      exact orb_keep (lin_st ok) ok.wr (by omega) (Sp.plus hR hms hd (Sp.mem hR (orb_in (by omega) (getD_mem (by omega)))))
    · rintro _ w5 ⟨r, rfl, ⟨m, hm, s6, s7, s8, s9, s11, s12, s13, rfl⟩, dw⟩
      simp [hm]
      exact dw
  · rintro _ w3 ⟨r, rfl, ⟨s6, s7, s8, s9, s10, s11, s12, s13, rfl⟩, dw⟩
    have hcut : cutD [D.int p, tab M.S, tab M.W, tab M.T] none (some 3) = [D.int p, tab M.S, tab M.W] := rfl
    have hcut2 : ∀ w, dCut M.d none (some 3) w = .ok (.tup [D.int p, tab M.S, tab M.W]) w := fun w => rfl
    simp [hcut2, s1, s4]
    rw [Out.wp_bind, Out.wp_catch, Out.wp_bind, Out.wp_at]
    refine sat_mono' (pick_sat a (noMach M) (by simp [noMach]) (by simp [noMach]) dw) ?_
    rintro d w4 ⟨hd, dw⟩
    obtain ⟨part, r, e⟩ := keeps_no a (w := w4) ok d hd
    have x1 : exm_BadMachine "BadMachine" = some true := by simp [exm_BadMachine]
    simp [e, hands_yes (e := ⟨"BadMachine", [("part", part)]⟩) x1]
end K03


set_option Elab.async false
set_option linter.all false
set_option maxRecDepth 100000
set_option maxHeartbeats 4000000
namespace K03
open PySem PySem.Spec L2 DL
open PyProof.Rows hiding St
def cs_ (a : Ad) : List (Addr × Addr) := [(a.cc_is_row, a.P_is_row), (a.cc_are_rows, a.P_are_rows), (a.cc_reached_of, a.P_reached_of), (a.cc_forms_of, a.P_forms_of)]
def mkls_ (a : Ad) : List (Addr × Str) := [(a.P_reached_of, qL "reached_of"), (a.P_forms_of, qL "forms_of")]
theorem law_ok {P : Program} {wd : World} {K : PySem.W.Frag} {mg : Str → Option Value} {a : Ad} (t : Txt K mg a)
    (hm : LawHolds N_law.length (g_law a)) :
    ∃ fd, (∀ (s : Shared) (u : Value), BindsTo s fd ⟨[u], []⟩ [("_law_script", u)]) ∧ ∀ base : Heap, (∀ p ∈ cs_ a, LamX.TabB base mg p.1 p.2) → FnOk P wd K mg base (L2.CX P wd) 27 a.f_law fd ["_law_script"] (spL K (cs_ a)) := by
  refine law_fn (g := g_law a) (N := N_law) (cs := cs_ a) (k := 26) t.d_law sc_law (fun _ _ _ _ _ _ _ => rfl) (fun base hB A outer s H E hr tk => ?_) hm
  refine ⟨(tbl2 (tabsOf (cs_ a)) (mkls_ a)), cs_ts, (List.forall_mem_cons.mpr ⟨(List.mem_cons_of_mem _ (List.mem_cons_of_mem _ (List.mem_cons_self ..))), (List.forall_mem_cons.mpr ⟨(List.mem_cons_of_mem _ (List.mem_cons_of_mem _ (List.mem_cons_of_mem _ (List.mem_cons_self ..)))), (fun p hp => by cases hp)⟩)⟩), ?_⟩
  have ti : Tin base mg (tbl2 (tabsOf (cs_ a)) (mkls_ a)) a := ⟨tabB_of (hB _ (List.mem_cons_self ..)), (List.mem_cons_self ..), ls_no (l := mkls_ a) (by simp [mkls_, t.ne_reached_of_is_row, t.ne_reached_of_are_rows, t.ne_reached_of_forms_of, t.ne_forms_of_is_row, t.ne_forms_of_are_rows, t.ne_forms_of_reached_of]), tabB_of (hB _ (List.mem_cons_of_mem _ (List.mem_cons_self ..))), (List.mem_cons_of_mem _ (List.mem_cons_self ..)), ls_no (l := mkls_ a) (by simp [mkls_, t.ne_reached_of_is_row, t.ne_reached_of_are_rows, t.ne_reached_of_forms_of, t.ne_forms_of_is_row, t.ne_forms_of_are_rows, t.ne_forms_of_reached_of])⟩
  have F_is_number := fn_is_number (P := P) (wd := wd) (base := base) (T := (tbl2 (tabsOf (cs_ a)) (mkls_ a))) t
  have F_is_row := fn_is_row (P := P) (wd := wd) (base := base) (T := (tbl2 (tabsOf (cs_ a)) (mkls_ a))) t ti F_is_number
  have F_inverse := fn_inverse (P := P) (wd := wd) (base := base) (T := (tbl2 (tabsOf (cs_ a)) (mkls_ a))) t
  have F_added := fn_added (P := P) (wd := wd) (base := base) (T := (tbl2 (tabsOf (cs_ a)) (mkls_ a))) t
  have F_scaled := fn_scaled (P := P) (wd := wd) (base := base) (T := (tbl2 (tabsOf (cs_ a)) (mkls_ a))) t
  have F_met := fn_met (P := P) (wd := wd) (base := base) (T := (tbl2 (tabsOf (cs_ a)) (mkls_ a))) t
  have F_times := fn_times (P := P) (wd := wd) (base := base) (T := (tbl2 (tabsOf (cs_ a)) (mkls_ a))) t F_met
  have F_lead := fn_lead (P := P) (wd := wd) (base := base) (T := (tbl2 (tabsOf (cs_ a)) (mkls_ a))) t
  have F_reduced := fn_reduced (P := P) (wd := wd) (base := base) (T := (tbl2 (tabsOf (cs_ a)) (mkls_ a))) t F_added F_inverse F_scaled F_lead
  have F_noughts := fn_noughts (P := P) (wd := wd) (base := base) (T := (tbl2 (tabsOf (cs_ a)) (mkls_ a))) t F_reduced F_lead
  have F_are_rows := fn_are_rows (P := P) (wd := wd) (base := base) (T := (tbl2 (tabsOf (cs_ a)) (mkls_ a))) t ti F_is_row
  have F_need_machine := fn_need_machine (P := P) (wd := wd) (base := base) (T := (tbl2 (tabsOf (cs_ a)) (mkls_ a))) t F_are_rows F_reduced F_is_number
  have F_unit := fn_unit (P := P) (wd := wd) (base := base) (T := (tbl2 (tabsOf (cs_ a)) (mkls_ a))) t
  have M_reached_of : Mkr base mg (tbl2 (tabsOf (cs_ a)) (mkls_ a)) a.cc_reached_of a.P_reached_of "reached_of" := ⟨hB _ (List.mem_cons_of_mem _ (List.mem_cons_of_mem _ (List.mem_cons_self ..))), (List.mem_cons_self ..), ls_un (l := mkls_ a) (by simp [mkls_, t.ne_reached_of_is_row, t.ne_reached_of_are_rows, t.ne_reached_of_forms_of, t.ne_forms_of_is_row, t.ne_forms_of_are_rows, t.ne_forms_of_reached_of]), tbl2_no⟩
  have G_reached_of_0 := fun (base' : Heap) (T' : Tbl) (cl : List (Str × Addr)) (ws : List V) (cs : List D) (hb : BaseC base base' cl ["machine"] ws) (ht : TblC (tbl2 (tabsOf (cs_ a)) (mkls_ a)) T' K cN (qL "reached_of") (lamP lx_reached_of_0) (lamB lx_reached_of_0) (lamS lx_reached_of_0) cl ws cs) => by
    have ti := Tin.up ti hb.up ht.ts ht.ls
    have F_met := fn_met (P := P) (wd := wd) (base := base') (T := T') t
    have F_times := fn_times (P := P) (wd := wd) (base := base') (T := T') t F_met
    have F_stirred := fn_stirred (P := P) (wd := wd) (base := base') (T := T') t F_times
    have F_added := fn_added (P := P) (wd := wd) (base := base') (T := T') t
    have F_inverse := fn_inverse (P := P) (wd := wd) (base := base') (T := T') t
    have F_scaled := fn_scaled (P := P) (wd := wd) (base := base') (T := T') t
    have F_lead := fn_lead (P := P) (wd := wd) (base := base') (T := T') t
    have F_reduced := fn_reduced (P := P) (wd := wd) (base := base') (T := T') t F_added F_inverse F_scaled F_lead
    exact fn_grown (P := P) (wd := wd) (base := base') (T := T') t F_reduced ((clo_reached_of_0 t F_stirred).mono (by decide)) ht.lm hb.len hb.cells
  have F_reached_of := fn_reached_of (P := P) (wd := wd) (base := base) (T := (tbl2 (tabsOf (cs_ a)) (mkls_ a))) t M_reached_of G_reached_of_0
  have M_forms_of : Mkr base mg (tbl2 (tabsOf (cs_ a)) (mkls_ a)) a.cc_forms_of a.P_forms_of "forms_of" := ⟨hB _ (List.mem_cons_of_mem _ (List.mem_cons_of_mem _ (List.mem_cons_of_mem _ (List.mem_cons_self ..)))), (List.mem_cons_of_mem _ (List.mem_cons_self ..)), ls_un (l := mkls_ a) (by simp [mkls_, t.ne_reached_of_is_row, t.ne_reached_of_are_rows, t.ne_reached_of_forms_of, t.ne_forms_of_is_row, t.ne_forms_of_are_rows, t.ne_forms_of_reached_of]), tbl2_no⟩
  have G_forms_of_0 := fun (base' : Heap) (T' : Tbl) (cl : List (Str × Addr)) (ws : List V) (cs : List D) (hb : BaseC base base' cl ["machine"] ws) (ht : TblC (tbl2 (tabsOf (cs_ a)) (mkls_ a)) T' K cN (qL "forms_of") (lamP lx_forms_of_0) (lamB lx_forms_of_0) (lamS lx_forms_of_0) cl ws cs) => by
    have ti := Tin.up ti hb.up ht.ts ht.ls
    have F_behind := fn_behind (P := P) (wd := wd) (base := base') (T := T') t
    have F_added := fn_added (P := P) (wd := wd) (base := base') (T := T') t
    have F_inverse := fn_inverse (P := P) (wd := wd) (base := base') (T := T') t
    have F_scaled := fn_scaled (P := P) (wd := wd) (base := base') (T := T') t
    have F_lead := fn_lead (P := P) (wd := wd) (base := base') (T := T') t
    have F_reduced := fn_reduced (P := P) (wd := wd) (base := base') (T := T') t F_added F_inverse F_scaled F_lead
    exact fn_grown (P := P) (wd := wd) (base := base') (T := T') t F_reduced ((clo_forms_of_0 t F_behind).mono (by decide)) ht.lm hb.len hb.cells
  have F_forms_of := fn_forms_of (P := P) (wd := wd) (base := base) (T := (tbl2 (tabsOf (cs_ a)) (mkls_ a))) t M_forms_of G_forms_of_0
  have F_unseen_of := fn_unseen_of (P := P) (wd := wd) (base := base) (T := (tbl2 (tabsOf (cs_ a)) (mkls_ a))) t F_forms_of F_noughts
  have F_both := fn_both (P := P) (wd := wd) (base := base) (T := (tbl2 (tabsOf (cs_ a)) (mkls_ a))) t F_noughts F_unit
  have F_reached := fn_reached (P := P) (wd := wd) (base := base) (T := (tbl2 (tabsOf (cs_ a)) (mkls_ a))) t F_reached_of F_need_machine
  have F_unseen := fn_unseen (P := P) (wd := wd) (base := base) (T := (tbl2 (tabsOf (cs_ a)) (mkls_ a))) t F_unseen_of F_need_machine
  have F_lost_of := fn_lost_of (P := P) (wd := wd) (base := base) (T := (tbl2 (tabsOf (cs_ a)) (mkls_ a))) t F_unseen_of F_reached_of F_both
  have F_lost := fn_lost (P := P) (wd := wd) (base := base) (T := (tbl2 (tabsOf (cs_ a)) (mkls_ a))) t F_lost_of F_need_machine
  have F_keeps_of := fn_keeps_of (P := P) (wd := wd) (base := base) (T := (tbl2 (tabsOf (cs_ a)) (mkls_ a))) t F_reached_of F_lost_of
  have F_keeps := fn_keeps (P := P) (wd := wd) (base := base) (T := (tbl2 (tabsOf (cs_ a)) (mkls_ a))) t F_keeps_of F_need_machine
  have F_law_taken := fn_law_taken (P := P) (wd := wd) (base := base) (T := (tbl2 (tabsOf (cs_ a)) (mkls_ a))) t
  have F_law_pick := fn_law_pick (P := P) (wd := wd) (base := base) (T := (tbl2 (tabsOf (cs_ a)) (mkls_ a))) t F_law_taken
  have F_law_alike := fn_law_alike (P := P) (wd := wd) (base := base) (T := (tbl2 (tabsOf (cs_ a)) (mkls_ a))) t 4
  have F_law_row := fn_law_row (P := P) (wd := wd) (base := base) (T := (tbl2 (tabsOf (cs_ a)) (mkls_ a))) t F_law_taken
  have F_law_stir := fn_law_stir (P := P) (wd := wd) (base := base) (T := (tbl2 (tabsOf (cs_ a)) (mkls_ a))) t F_law_taken
  have F_law_machine := fn_law_machine (P := P) (wd := wd) (base := base) (T := (tbl2 (tabsOf (cs_ a)) (mkls_ a))) t F_law_stir F_law_taken F_law_row F_law_pick
  have F_law_met := fn_law_met (P := P) (wd := wd) (base := base) (T := (tbl2 (tabsOf (cs_ a)) (mkls_ a))) t
  have F_law_added := fn_law_added (P := P) (wd := wd) (base := base) (T := (tbl2 (tabsOf (cs_ a)) (mkls_ a))) t
  have F_law_stirred := fn_law_stirred (P := P) (wd := wd) (base := base) (T := (tbl2 (tabsOf (cs_ a)) (mkls_ a))) t F_law_met
  have F_law_span := fn_law_span (P := P) (wd := wd) (base := base) (T := (tbl2 (tabsOf (cs_ a)) (mkls_ a))) t F_law_added
  have F_law_lead := fn_law_lead (P := P) (wd := wd) (base := base) (T := (tbl2 (tabsOf (cs_ a)) (mkls_ a))) t
  have F_law_stairs := fn_law_stairs (P := P) (wd := wd) (base := base) (T := (tbl2 (tabsOf (cs_ a)) (mkls_ a))) t F_law_lead
  have F_law_rows := fn_law_rows (P := P) (wd := wd) (base := base) (T := (tbl2 (tabsOf (cs_ a)) (mkls_ a))) t
  have F_law_reached := fn_law_reached (P := P) (wd := wd) (base := base) (T := (tbl2 (tabsOf (cs_ a)) (mkls_ a))) t F_law_span F_law_stirred
  have F_law_unseen := fn_law_unseen (P := P) (wd := wd) (base := base) (T := (tbl2 (tabsOf (cs_ a)) (mkls_ a))) t F_law_rows F_law_stirred F_law_met
  have F_law_size := fn_law_size (P := P) (wd := wd) (base := base) (T := (tbl2 (tabsOf (cs_ a)) (mkls_ a))) t
  have F_law_deed := fn_law_deed (P := P) (wd := wd) (base := base) (T := (tbl2 (tabsOf (cs_ a)) (mkls_ a))) t F_law_stirred F_law_added F_law_met
  exact (dss_cons
 (ds_set (i := 1) (se_p (dx_new (da_cons (dx_var 0) (da_cons dx_int (da_cons dx_int (da_cons dx_int da_nil)))))) sc_law.nd)
 (dss_cons
 (ds_set (i := 2) (se_p (dx_call F_law_machine (hr.mono (by decide)) rfl t.m_law_machine t.d_law_machine.kp tk (da_cons (dx_var 1) (da_cons (dx_lst (da_cons dx_int (da_cons dx_int (da_cons dx_int (da_cons dx_int da_nil))))) (da_cons dx_int (da_cons dx_int da_nil)))))) sc_law.nd)
 (dss_cons
 (ds_set (i := 3) (se_p (dx_ix (DE.be (dx_var 2)) (DE.be dx_int))) sc_law.nd)
 (dss_cons
 (ds_parT (is := [4, 5]) rfl sc_law.nd (sa_cons (se_p (dx_call F_law_reached (hr.mono (by decide)) rfl t.m_law_reached t.d_law_reached.kp tk (da_cons (dx_var 2) da_nil))) (sa_cons (se_p (dx_call F_law_unseen (hr.mono (by decide)) rfl t.m_law_unseen t.d_law_unseen.kp tk (da_cons (dx_var 2) da_nil))) sa_nil)) (.cons (i := 4) rfl (by first | exact .inl rfl | exact .inr rfl) (by first | exact .inl rfl | exact .inr rfl) rfl (.cons (i := 5) rfl (by first | exact .inl rfl | exact .inr rfl) (by first | exact .inl rfl | exact .inr rfl) rfl .nil)))
 (dss_cons
 (ds_setLc (own := [("_law_one", 7)]) rfl sc_law.nd (bi_seq (DE.be (dx_var 4))) (blk_ok N_law ["_law_never"] (by decide +kernel) (.cons (by first | exact .inl rfl | exact .inr rfl) .nil)) (fun _ => (dg_name 7 sc_law.nd)) (fun _ => (dts_one (dt_cmp (cd_in (un1 hr)) (DE.be (dx_var 7)) (DE.be (dx_var 5))))) (fun _ => (dx_var 7)) (by decide))
 (dss_cons
 (ds_set (i := 8) (se_p (dx_lst (da_cons (dx_call F_reached (hr.mono (by decide)) rfl t.m_reached t.d_reached.kp tk (da_cons (dx_var 2) da_nil)) (da_cons (dx_call F_unseen (hr.mono (by decide)) rfl t.m_unseen t.d_unseen.kp tk (da_cons (dx_var 2) da_nil)) (da_cons (dx_call F_lost (hr.mono (by decide)) rfl t.m_lost t.d_lost.kp tk (da_cons (dx_var 2) da_nil)) da_nil))))) sc_law.nd)
 (dss_cons
 (ds_rel 6 (ds_if (dt_not (dt_tru (DE.be (dx_call F_law_alike (hr.mono (by decide)) rfl t.m_law_alike t.d_law_alike.kp tk (da_cons (dx_var 8) (da_cons (dx_lst (da_cons (dx_call F_law_stairs (hr.mono (by decide)) rfl t.m_law_stairs t.d_law_stairs.kp tk (da_cons (dx_var 3) (da_cons (dx_var 4) da_nil))) (da_cons (dx_call F_law_stairs (hr.mono (by decide)) rfl t.m_law_stairs t.d_law_stairs.kp tk (da_cons (dx_var 3) (da_cons (dx_var 5) da_nil))) (da_cons (dx_call F_law_stairs (hr.mono (by decide)) rfl t.m_law_stairs t.d_law_stairs.kp tk (da_cons (dx_var 3) (da_cons (dx_var 6) da_nil))) da_nil)))) da_nil)))))) (dss_one (ds_ret (DE.be dx_bl))) dss_nil))
 (dss_cons
 (ds_if (dt_not (dt_tru (DE.be (dx_call F_law_alike (hr.mono (by decide)) rfl t.m_law_alike t.d_law_alike.kp tk (da_cons (dx_call F_keeps (hr.mono (by decide)) rfl t.m_keeps t.d_keeps.kp tk (da_cons (dx_var 2) da_nil)) (da_cons (dx_sub (DE.be (dx_call F_law_size (hr.mono (by decide)) rfl t.m_law_size t.d_law_size.kp tk (da_cons (dx_var 3) (da_cons (dx_len rfl t.z_len (ba_cons (DE.be (dx_var 4)) ba_nil)) da_nil)))) (DE.be (dx_call F_law_size (hr.mono (by decide)) rfl t.m_law_size t.d_law_size.kp tk (da_cons (dx_var 3) (da_cons (dx_len rfl t.z_len (ba_cons (bx_own 6) ba_nil)) da_nil))))) da_nil)))))) (dss_one (ds_ret (DE.be dx_bl))) dss_nil)
 (dss_cons
 (ds_for (L2.passes_of rfl) rfl (di_rng1 rfl t.z_range (da_cons dx_int da_nil)) (dg_name 9 sc_law.nd) (dss_cons
 (ds_set (i := 10) (se_p (dx_call F_law_pick (hr.mono (by decide)) rfl t.m_law_pick t.d_law_pick.kp tk (da_cons (dx_var 1) (da_cons (dx_var 4) da_nil)))) sc_law.nd)
 (dss_cons
 (ds_for (L2.passes_of rfl) rfl (di_rng1 rfl t.z_range (da_cons dx_int da_nil)) (dg_name 11 sc_law.nd) (dss_cons
 (ds_set (i := 12) (se_p (dx_call F_law_taken (hr.mono (by decide)) rfl t.m_law_taken t.d_law_taken.kp tk (da_cons (dx_var 1) (da_cons (dx_var 3) da_nil)))) sc_law.nd)
 (dss_one (ds_set (i := 10) (se_p (dx_ix (DE.be (dx_call F_law_deed (hr.mono (by decide)) rfl t.m_law_deed t.d_law_deed.kp tk (da_cons (dx_var 2) (da_cons (dx_var 10) (da_cons (dx_var 12) (da_cons (dx_tup (da_cons dx_str (da_cons (dx_call F_law_taken (hr.mono (by decide)) rfl t.m_law_taken t.d_law_taken.kp tk (da_cons (dx_var 1) (da_cons (dx_len rfl t.z_len (ba_cons (DE.be (dx_ix (DE.be (dx_var 2)) (DE.be dx_int))) ba_nil)) da_nil))) da_nil))) da_nil)))))) (DE.be dx_int))) sc_law.nd))))
 (dss_one (ds_if (dt_cmp (cd_notIn (un1 hr)) (DE.be (dx_var 10)) (DE.be (dx_var 4))) (dss_one (ds_ret (DE.be dx_bl))) dss_nil)))))
 (dss_cons
 (ds_tryM rfl rfl sc_law.nd tk (fun _ _ _ tk' po => (dss_one (ds_expr (DE.be (dx_call F_keeps (hr.mono (by decide)) rfl t.m_keeps t.d_keeps.kp tk' (da_cons (dx_call F_law_pick (hr.mono (by decide)) rfl t.m_law_pick t.d_law_pick.kp tk' (da_cons (dx_var 1) (da_cons (dx_lst (da_cons dx_non (da_cons (dx_cut (DE.be (dx_var 2)) do_none (do_some dx_int)) (da_cons (dx_tup (da_cons (dx_var 3) (da_cons (dx_ix (DE.be (dx_var 2)) (DE.be dx_int)) (da_cons (dx_ix (DE.be (dx_var 2)) (DE.be dx_int)) (da_cons (dx_tup da_nil) da_nil))))) (da_cons (dx_lst (da_cons (dx_var 3) da_nil)) da_nil))))) da_nil))) da_nil)))))) (.nm (i := 13) ⟨rfl, by decide, .inl t.mg_BadMachine⟩ (exm_ok_BadMachine t) (fun _ _ => (dss_one (ds_ret (DE.be dx_bl)))) .nil))
 (dss_one (ds_ret (DE.be dx_bl)))))))))))))
end K03


set_option Elab.async false
set_option linter.all false
set_option maxRecDepth 100000
set_option maxHeartbeats 4000000
namespace K03
open PySem PySem.Spec L2 DL
open PyProof.Rows hiding St
def fas : List He.Fa := [.free "isinstance", .free "bool", .free "int", .free "all", .glo "is_number", .free "len", .free "tuple", .free "range", .free "zip", .free "sum", .glo "met", .free "enumerate", .free "sorted", .glo "added", .glo "inverse", .glo "scaled", .glo "lead", .glo "reduced", .glo "is_row", .glo "are_rows", .glo "PRIMES", .glo "times", .glo "stirred", .free "list", .glo "grown", .glo "behind", .glo "forms_of", .glo "noughts", .glo "unit", .glo "reached_of", .glo "need_machine", .glo "unseen_of", .glo "both", .glo "lost_of", .glo "keeps_of", .glo "_law_taken", .free "str", .glo "_law_alike", .glo "_law_stir", .glo "_law_row", .glo "_law_pick", .glo "_law_met", .glo "_law_added", .glo "_law_lead", .free "set", .free "max", .glo "_law_span", .glo "_law_stirred", .glo "_law_rows", .glo "keeps", .glo "_law_deed", .glo "_law_size", .glo "_law_stairs", .glo "lost", .glo "unseen", .glo "reached", .glo "_law_unseen", .glo "_law_reached", .glo "_law_machine", .glo "law", .glo "BadMachine", .exm "BadMachine" "BadMachine" true]
def fns : List DefX := [⟨aM "BadMachine" "__init__", "__init__", "BadMachine.__init__", defArgs s_BadMachinezz_initzz, defBody s_BadMachinezz_initzz, defScope s_BadMachinezz_initzz, []⟩,
  ⟨aG "is_number", "is_number", "is_number", defArgs s_is_number, defBody s_is_number, defScope s_is_number, []⟩,
  ⟨aG "is_row", "is_row", "is_row", defArgs s_is_row, defBody s_is_row, defScope s_is_row, []⟩,
  ⟨aG "inverse", "inverse", "inverse", defArgs s_inverse, defBody s_inverse, defScope s_inverse, []⟩,
  ⟨aG "added", "added", "added", defArgs s_added, defBody s_added, defScope s_added, [.int 1]⟩,
  ⟨aG "scaled", "scaled", "scaled", defArgs s_scaled, defBody s_scaled, defScope s_scaled, []⟩,
  ⟨aG "met", "met", "met", defArgs s_met, defBody s_met, defScope s_met, []⟩,
  ⟨aG "times", "times", "times", defArgs s_times, defBody s_times, defScope s_times, []⟩,
  ⟨aG "behind", "behind", "behind", defArgs s_behind, defBody s_behind, defScope s_behind, []⟩,
  ⟨aG "lead", "lead", "lead", defArgs s_lead, defBody s_lead, defScope s_lead, []⟩,
  ⟨aG "reduced", "reduced", "reduced", defArgs s_reduced, defBody s_reduced, defScope s_reduced, []⟩,
  ⟨aG "noughts", "noughts", "noughts", defArgs s_noughts, defBody s_noughts, defScope s_noughts, []⟩,
  ⟨aG "are_rows", "are_rows", "are_rows", defArgs s_are_rows, defBody s_are_rows, defScope s_are_rows, []⟩,
  ⟨aG "need_machine", "need_machine", "need_machine", defArgs s_need_machine, defBody s_need_machine, defScope s_need_machine, []⟩,
  ⟨aG "stirred", "stirred", "stirred", defArgs s_stirred, defBody s_stirred, defScope s_stirred, []⟩,
  ⟨aG "unit", "unit", "unit", defArgs s_unit, defBody s_unit, defScope s_unit, []⟩,
  ⟨aG "grown", "grown", "grown", defArgs s_grown, defBody s_grown, defScope s_grown, []⟩,
  ⟨aG "reached_of", "reached_of", "reached_of", defArgs s_reached_of, defBody s_reached_of, defScope s_reached_of, []⟩,
  ⟨aG "forms_of", "forms_of", "forms_of", defArgs s_forms_of, defBody s_forms_of, defScope s_forms_of, []⟩,
  ⟨aG "unseen_of", "unseen_of", "unseen_of", defArgs s_unseen_of, defBody s_unseen_of, defScope s_unseen_of, []⟩,
  ⟨aG "both", "both", "both", defArgs s_both, defBody s_both, defScope s_both, []⟩,
  ⟨aG "reached", "reached", "reached", defArgs s_reached, defBody s_reached, defScope s_reached, []⟩,
  ⟨aG "unseen", "unseen", "unseen", defArgs s_unseen, defBody s_unseen, defScope s_unseen, []⟩,
  ⟨aG "lost_of", "lost_of", "lost_of", defArgs s_lost_of, defBody s_lost_of, defScope s_lost_of, []⟩,
  ⟨aG "lost", "lost", "lost", defArgs s_lost, defBody s_lost, defScope s_lost, []⟩,
  ⟨aG "keeps_of", "keeps_of", "keeps_of", defArgs s_keeps_of, defBody s_keeps_of, defScope s_keeps_of, []⟩,
  ⟨aG "keeps", "keeps", "keeps", defArgs s_keeps, defBody s_keeps, defScope s_keeps, []⟩,
  ⟨aG "_law_taken", "_law_taken", "_law_taken", defArgs s_law_taken, defBody s_law_taken, defScope s_law_taken, []⟩,
  ⟨aG "_law_pick", "_law_pick", "_law_pick", defArgs s_law_pick, defBody s_law_pick, defScope s_law_pick, []⟩,
  ⟨aG "_law_alike", "_law_alike", "_law_alike", defArgs s_law_alike, defBody s_law_alike, defScope s_law_alike, []⟩,
  ⟨aG "_law_row", "_law_row", "_law_row", defArgs s_law_row, defBody s_law_row, defScope s_law_row, []⟩,
  ⟨aG "_law_stir", "_law_stir", "_law_stir", defArgs s_law_stir, defBody s_law_stir, defScope s_law_stir, []⟩,
  ⟨aG "_law_machine", "_law_machine", "_law_machine", defArgs s_law_machine, defBody s_law_machine, defScope s_law_machine, []⟩,
  ⟨aG "_law_met", "_law_met", "_law_met", defArgs s_law_met, defBody s_law_met, defScope s_law_met, []⟩,
  ⟨aG "_law_added", "_law_added", "_law_added", defArgs s_law_added, defBody s_law_added, defScope s_law_added, []⟩,
  ⟨aG "_law_stirred", "_law_stirred", "_law_stirred", defArgs s_law_stirred, defBody s_law_stirred, defScope s_law_stirred, []⟩,
  ⟨aG "_law_span", "_law_span", "_law_span", defArgs s_law_span, defBody s_law_span, defScope s_law_span, []⟩,
  ⟨aG "_law_lead", "_law_lead", "_law_lead", defArgs s_law_lead, defBody s_law_lead, defScope s_law_lead, []⟩,
  ⟨aG "_law_stairs", "_law_stairs", "_law_stairs", defArgs s_law_stairs, defBody s_law_stairs, defScope s_law_stairs, []⟩,
  ⟨aG "_law_rows", "_law_rows", "_law_rows", defArgs s_law_rows, defBody s_law_rows, defScope s_law_rows, []⟩,
  ⟨aG "_law_reached", "_law_reached", "_law_reached", defArgs s_law_reached, defBody s_law_reached, defScope s_law_reached, []⟩,
  ⟨aG "_law_unseen", "_law_unseen", "_law_unseen", defArgs s_law_unseen, defBody s_law_unseen, defScope s_law_unseen, []⟩,
  ⟨aG "_law_size", "_law_size", "_law_size", defArgs s_law_size, defBody s_law_size, defScope s_law_size, []⟩,
  ⟨aG "_law_deed", "_law_deed", "_law_deed", defArgs s_law_deed, defBody s_law_deed, defScope s_law_deed, []⟩,
  ⟨aG "law", "law", "law", defArgs s_law, defBody s_law, defScope s_law, []⟩]
def tfs : List AdF := [aG "is_row", aG "are_rows", aG "reached_of", aG "forms_of"]
def exL (K : PySem.W.Frag) : List Bool := [oexB K (He.ga K "BadMachine") (aM "BadMachine" "__init__" K) ["part"],
  tiB K "MOST_PLUGS" 4,
  tiB K "MOST_CELLS" 4,
  tupI K "PRIMES" [2, 3, 5, 7],
  !(((cTA K (aG "reached_of" K)).2) == ((cTA K (aG "is_row" K)).2)),
  !(((cTA K (aG "reached_of" K)).2) == ((cTA K (aG "are_rows" K)).2)),
  !(((cTA K (aG "reached_of" K)).2) == ((cTA K (aG "forms_of" K)).2)),
  !(((cTA K (aG "forms_of" K)).2) == ((cTA K (aG "is_row" K)).2)),
  !(((cTA K (aG "forms_of" K)).2) == ((cTA K (aG "are_rows" K)).2)),
  !(((cTA K (aG "forms_of" K)).2) == ((cTA K (aG "reached_of" K)).2))]
def exs (K : PySem.W.Frag) : Bool := (exL K).all id
def adOf (K : PySem.W.Frag) : Ad where
  f_BadMachinezz_initzz := aM "BadMachine" "__init__" K
  c_BadMachinezz_initzz := codeV K (aM "BadMachine" "__init__" K)
  k_BadMachine := He.ga K "BadMachine"
  f_is_number := aG "is_number" K
  c_is_number := codeV K (aG "is_number" K)
  cc_is_row := codeA K (aG "is_row" K)
  P_is_row := (cTA K (aG "is_row" K)).2
  f_is_row := aG "is_row" K
  f_inverse := aG "inverse" K
  c_inverse := codeV K (aG "inverse" K)
  f_added := aG "added" K
  c_added := codeV K (aG "added" K)
  f_scaled := aG "scaled" K
  c_scaled := codeV K (aG "scaled" K)
  f_met := aG "met" K
  c_met := codeV K (aG "met" K)
  f_times := aG "times" K
  c_times := codeV K (aG "times" K)
  f_behind := aG "behind" K
  c_behind := codeV K (aG "behind" K)
  f_lead := aG "lead" K
  c_lead := codeV K (aG "lead" K)
  f_reduced := aG "reduced" K
  c_reduced := codeV K (aG "reduced" K)
  f_noughts := aG "noughts" K
  c_noughts := codeV K (aG "noughts" K)
  cc_are_rows := codeA K (aG "are_rows" K)
  P_are_rows := (cTA K (aG "are_rows" K)).2
  f_are_rows := aG "are_rows" K
  ti_MOST_PLUGS := tiN K "MOST_PLUGS"
  ti_MOST_CELLS := tiN K "MOST_CELLS"
  g_PRIMES := He.ga K "PRIMES"
  f_need_machine := aG "need_machine" K
  c_need_machine := codeV K (aG "need_machine" K)
  f_stirred := aG "stirred" K
  c_stirred := codeV K (aG "stirred" K)
  f_unit := aG "unit" K
  c_unit := codeV K (aG "unit" K)
  f_grown := aG "grown" K
  c_grown := codeV K (aG "grown" K)
  cc_reached_of := codeA K (aG "reached_of" K)
  P_reached_of := (cTA K (aG "reached_of" K)).2
  f_reached_of := aG "reached_of" K
  cc_forms_of := codeA K (aG "forms_of" K)
  P_forms_of := (cTA K (aG "forms_of" K)).2
  f_forms_of := aG "forms_of" K
  f_unseen_of := aG "unseen_of" K
  c_unseen_of := codeV K (aG "unseen_of" K)
  f_both := aG "both" K
  c_both := codeV K (aG "both" K)
  f_reached := aG "reached" K
  c_reached := codeV K (aG "reached" K)
  f_unseen := aG "unseen" K
  c_unseen := codeV K (aG "unseen" K)
  f_lost_of := aG "lost_of" K
  c_lost_of := codeV K (aG "lost_of" K)
  f_lost := aG "lost" K
  c_lost := codeV K (aG "lost" K)
  f_keeps_of := aG "keeps_of" K
  c_keeps_of := codeV K (aG "keeps_of" K)
  f_keeps := aG "keeps" K
  c_keeps := codeV K (aG "keeps" K)
  f_law_taken := aG "_law_taken" K
  c_law_taken := codeV K (aG "_law_taken" K)
  f_law_pick := aG "_law_pick" K
  c_law_pick := codeV K (aG "_law_pick" K)
  f_law_alike := aG "_law_alike" K
  c_law_alike := codeV K (aG "_law_alike" K)
  f_law_row := aG "_law_row" K
  c_law_row := codeV K (aG "_law_row" K)
  f_law_stir := aG "_law_stir" K
  c_law_stir := codeV K (aG "_law_stir" K)
  f_law_machine := aG "_law_machine" K
  c_law_machine := codeV K (aG "_law_machine" K)
  f_law_met := aG "_law_met" K
  c_law_met := codeV K (aG "_law_met" K)
  f_law_added := aG "_law_added" K
  c_law_added := codeV K (aG "_law_added" K)
  f_law_stirred := aG "_law_stirred" K
  c_law_stirred := codeV K (aG "_law_stirred" K)
  f_law_span := aG "_law_span" K
  c_law_span := codeV K (aG "_law_span" K)
  f_law_lead := aG "_law_lead" K
  c_law_lead := codeV K (aG "_law_lead" K)
  f_law_stairs := aG "_law_stairs" K
  c_law_stairs := codeV K (aG "_law_stairs" K)
  f_law_rows := aG "_law_rows" K
  c_law_rows := codeV K (aG "_law_rows" K)
  f_law_reached := aG "_law_reached" K
  c_law_reached := codeV K (aG "_law_reached" K)
  f_law_unseen := aG "_law_unseen" K
  c_law_unseen := codeV K (aG "_law_unseen" K)
  f_law_size := aG "_law_size" K
  c_law_size := codeV K (aG "_law_size" K)
  f_law_deed := aG "_law_deed" K
  c_law_deed := codeV K (aG "_law_deed" K)
  f_law := aG "law" K
  c_law := codeV K (aG "law" K)
theorem _root_.DL.SaysH.ex_ {h : Heap} {K : PySem.W.Frag} (c : SaysH fas fns tfs exs h K) (i : Nat) {b : Bool} (e : (exL K)[i]? = some b) : b = true := List.all_eq_true.mp c.more b (List.mem_of_getElem? e)
theorem txt_of {K : PySem.W.Frag} {mg : Str → Option Value} {h : Heap} (X : K.In h) (G : h.Ns mainGlobals mg) (c : SaysH fas fns tfs exs h K) : Txt K mg (adOf K) where
  d_BadMachinezz_initzz := (c.df_ 0 rfl rfl rfl rfl)
  ox_BadMachine := oexB_ok (c.ex_ 0 rfl)
  z_isinstance := He.free_ok X G (c.fa_ 0 rfl)
  z_bool := He.free_ok X G (c.fa_ 1 rfl)
  z_int := He.free_ok X G (c.fa_ 2 rfl)
  d_is_number := (c.df_ 1 rfl rfl rfl rfl)
  z_all := He.free_ok X G (c.fa_ 3 rfl)
  m_is_number := He.glo_ok X G (c.fa_ 4 rfl)
  z_len := He.free_ok X G (c.fa_ 5 rfl)
  z_tuple := He.free_ok X G (c.fa_ 6 rfl)
  d_is_row := DefAt.codeRef (c.df_ 2 rfl rfl rfl rfl)
  z_range := He.free_ok X G (c.fa_ 7 rfl)
  d_inverse := (c.df_ 3 rfl rfl rfl rfl)
  z_zip := He.free_ok X G (c.fa_ 8 rfl)
  d_added := (c.df_ 4 rfl rfl rfl rfl)
  d_scaled := (c.df_ 5 rfl rfl rfl rfl)
  z_sum := He.free_ok X G (c.fa_ 9 rfl)
  d_met := (c.df_ 6 rfl rfl rfl rfl)
  m_met := He.glo_ok X G (c.fa_ 10 rfl)
  d_times := (c.df_ 7 rfl rfl rfl rfl)
  d_behind := (c.df_ 8 rfl rfl rfl rfl)
  z_enumerate := He.free_ok X G (c.fa_ 11 rfl)
  d_lead := (c.df_ 9 rfl rfl rfl rfl)
  z_sorted := He.free_ok X G (c.fa_ 12 rfl)
  m_added := He.glo_ok X G (c.fa_ 13 rfl)
  m_inverse := He.glo_ok X G (c.fa_ 14 rfl)
  m_scaled := He.glo_ok X G (c.fa_ 15 rfl)
  m_lead := He.glo_ok X G (c.fa_ 16 rfl)
  d_reduced := (c.df_ 10 rfl rfl rfl rfl)
  m_reduced := He.glo_ok X G (c.fa_ 17 rfl)
  d_noughts := (c.df_ 11 rfl rfl rfl rfl)
  m_is_row := He.glo_ok X G (c.fa_ 18 rfl)
  d_are_rows := DefAt.codeRef (c.df_ 12 rfl rfl rfl rfl)
  c_MOST_PLUGS := tiB_ok X G (c.ex_ 1 rfl)
  m_are_rows := He.glo_ok X G (c.fa_ 19 rfl)
  c_MOST_CELLS := tiB_ok X G (c.ex_ 2 rfl)
  c_PRIMES := He.glo_ok X G (c.fa_ 20 rfl)
  kt_PRIMES := tupI_ok (c.ex_ 3 rfl)
  d_need_machine := (c.df_ 13 rfl rfl rfl rfl)
  m_times := He.glo_ok X G (c.fa_ 21 rfl)
  d_stirred := (c.df_ 14 rfl rfl rfl rfl)
  d_unit := (c.df_ 15 rfl rfl rfl rfl)
  d_grown := (c.df_ 16 rfl rfl rfl rfl)
  m_stirred := He.glo_ok X G (c.fa_ 22 rfl)
  z_list := He.free_ok X G (c.fa_ 23 rfl)
  m_grown := He.glo_ok X G (c.fa_ 24 rfl)
  d_reached_of := DefAt.codeRef (c.df_ 17 rfl rfl rfl rfl)
  m_behind := He.glo_ok X G (c.fa_ 25 rfl)
  d_forms_of := DefAt.codeRef (c.df_ 18 rfl rfl rfl rfl)
  m_forms_of := He.glo_ok X G (c.fa_ 26 rfl)
  m_noughts := He.glo_ok X G (c.fa_ 27 rfl)
  d_unseen_of := (c.df_ 19 rfl rfl rfl rfl)
  m_unit := He.glo_ok X G (c.fa_ 28 rfl)
  d_both := (c.df_ 20 rfl rfl rfl rfl)
  m_reached_of := He.glo_ok X G (c.fa_ 29 rfl)
  m_need_machine := He.glo_ok X G (c.fa_ 30 rfl)
  d_reached := (c.df_ 21 rfl rfl rfl rfl)
  m_unseen_of := He.glo_ok X G (c.fa_ 31 rfl)
  d_unseen := (c.df_ 22 rfl rfl rfl rfl)
  m_both := He.glo_ok X G (c.fa_ 32 rfl)
  d_lost_of := (c.df_ 23 rfl rfl rfl rfl)
  m_lost_of := He.glo_ok X G (c.fa_ 33 rfl)
  d_lost := (c.df_ 24 rfl rfl rfl rfl)
  d_keeps_of := (c.df_ 25 rfl rfl rfl rfl)
  m_keeps_of := He.glo_ok X G (c.fa_ 34 rfl)
  d_keeps := (c.df_ 26 rfl rfl rfl rfl)
  d_law_taken := (c.df_ 27 rfl rfl rfl rfl)
  m_law_taken := He.glo_ok X G (c.fa_ 35 rfl)
  d_law_pick := (c.df_ 28 rfl rfl rfl rfl)
  z_str := He.free_ok X G (c.fa_ 36 rfl)
  m_law_alike := He.glo_ok X G (c.fa_ 37 rfl)
  d_law_alike := (c.df_ 29 rfl rfl rfl rfl)
  d_law_row := (c.df_ 30 rfl rfl rfl rfl)
  d_law_stir := (c.df_ 31 rfl rfl rfl rfl)
  m_law_stir := He.glo_ok X G (c.fa_ 38 rfl)
  m_law_row := He.glo_ok X G (c.fa_ 39 rfl)
  m_law_pick := He.glo_ok X G (c.fa_ 40 rfl)
  d_law_machine := (c.df_ 32 rfl rfl rfl rfl)
  d_law_met := (c.df_ 33 rfl rfl rfl rfl)
  d_law_added := (c.df_ 34 rfl rfl rfl rfl)
  m_law_met := He.glo_ok X G (c.fa_ 41 rfl)
  d_law_stirred := (c.df_ 35 rfl rfl rfl rfl)
  m_law_added := He.glo_ok X G (c.fa_ 42 rfl)
  d_law_span := (c.df_ 36 rfl rfl rfl rfl)
  d_law_lead := (c.df_ 37 rfl rfl rfl rfl)
  m_law_lead := He.glo_ok X G (c.fa_ 43 rfl)
  z_set := He.free_ok X G (c.fa_ 44 rfl)
  z_max := He.free_ok X G (c.fa_ 45 rfl)
  d_law_stairs := (c.df_ 38 rfl rfl rfl rfl)
  d_law_rows := (c.df_ 39 rfl rfl rfl rfl)
  m_law_span := He.glo_ok X G (c.fa_ 46 rfl)
  m_law_stirred := He.glo_ok X G (c.fa_ 47 rfl)
  d_law_reached := (c.df_ 40 rfl rfl rfl rfl)
  m_law_rows := He.glo_ok X G (c.fa_ 48 rfl)
  d_law_unseen := (c.df_ 41 rfl rfl rfl rfl)
  d_law_size := (c.df_ 42 rfl rfl rfl rfl)
  d_law_deed := (c.df_ 43 rfl rfl rfl rfl)
  m_keeps := He.glo_ok X G (c.fa_ 49 rfl)
  m_law_deed := He.glo_ok X G (c.fa_ 50 rfl)
  m_law_size := He.glo_ok X G (c.fa_ 51 rfl)
  m_law_stairs := He.glo_ok X G (c.fa_ 52 rfl)
  m_lost := He.glo_ok X G (c.fa_ 53 rfl)
  m_unseen := He.glo_ok X G (c.fa_ 54 rfl)
  m_reached := He.glo_ok X G (c.fa_ 55 rfl)
  m_law_unseen := He.glo_ok X G (c.fa_ 56 rfl)
  m_law_reached := He.glo_ok X G (c.fa_ 57 rfl)
  m_law_machine := He.glo_ok X G (c.fa_ 58 rfl)
  d_law := (c.df_ 44 rfl rfl rfl rfl)
  m_law := He.glo_ok X G (c.fa_ 59 rfl)
  ne_reached_of_is_row := not_ok (c.ex_ 4 rfl)
  ne_reached_of_are_rows := not_ok (c.ex_ 5 rfl)
  ne_reached_of_forms_of := not_ok (c.ex_ 6 rfl)
  ne_forms_of_is_row := not_ok (c.ex_ 7 rfl)
  ne_forms_of_are_rows := not_ok (c.ex_ 8 rfl)
  ne_forms_of_reached_of := not_ok (c.ex_ 9 rfl)
  mg_BadMachine := He.glo_ok X G (c.fa_ 60 rfl)
  xm_BadMachine_BadMachine := He.exm_ok (c.fa_ 61 rfl)
theorem law_at {l : PySem.W.OpenLaw} {w : World} {K : PySem.W.Frag} {mg : Str → Option Value} {h : Heap} {fa : Addr} (hm : ∀ a : Ad, LawHolds N_law.length (g_law a)) (X : K.In h) (G : h.Ns mainGlobals mg) (c : SaysH fas fns tfs exs h K) (hfa : mg "law" = some (.ref fa)) :
    LamX.LawAtS l w K (L2.CX l.prog w) 27 63 "_law_script" mg fa h := by
  have T := txt_of X G c
  refine law_atH X c (cs := cs_ (adOf K)) (fun p hp => ?_) hfa T.m_law (law_ok T (hm _))
  simp only [cs_, List.mem_cons, List.not_mem_nil, or_false] at hp
  rcases hp with rfl | rfl | rfl | rfl
  · exact ⟨_, List.mem_of_getElem? (i := 0) rfl, rfl⟩
  · exact ⟨_, List.mem_of_getElem? (i := 1) rfl, rfl⟩
  · exact ⟨_, List.mem_of_getElem? (i := 2) rfl, rfl⟩
  · exact ⟨_, List.mem_of_getElem? (i := 3) rfl, rfl⟩
def nms0 : List Str := ["StoreError",
  "BadMachine",
  "PRIMES",
  "is_number",
  "is_row",
  "inverse",
  "added",
  "scaled",
  "met",
  "times",
  "behind",
  "lead",
  "reduced",
  "noughts",
  "MOST_CELLS",
  "MOST_PLUGS",
  "are_rows",
  "need_machine",
  "stirred",
  "unit",
  "grown",
  "reached_of",
  "forms_of",
  "unseen_of",
  "both",
  "reached",
  "unseen",
  "lost_of",
  "lost",
  "keeps_of"]
def nms1 : List Str := ["keeps",
  "_law_taken",
  "_law_pick",
  "_law_alike",
  "_law_row",
  "_law_stir",
  "_law_machine",
  "_law_met",
  "_law_added",
  "_law_stirred",
  "_law_span",
  "_law_lead",
  "_law_stairs",
  "_law_rows",
  "_law_reached",
  "_law_unseen",
  "_law_size",
  "_law_deed"]
def nms : List Str := nms0 ++ nms1
abbrev R : PySem.W.OpenRow := PySem.W.OpenLaw.row PySem.Challenge.rw_driftstore_k03_whole_parts
abbrev hk : PySem.W.Hook := hookH 8 fas fns tfs exs
theorem run (w : World) : HandSHeadRun.RunEq R (PySem.W.view R.prog [53]) hk (obHT 8 fas fns tfs exs) 3000 nms w := by
  intro os
  kernel_rfl
end K03
open PySem PySem.W PySem.Calls PyProof.Rows
theorem PySem.Challenge.cw_driftstore_k03_whole_parts_holds : PySem.Challenge.rw_driftstore_k03_whole_parts.Holds := by
  w_on; o_law
  refine HandSHeadRun.head_any (r := OpenLaw.row PySem.Challenge.rw_driftstore_k03_whole_parts) (q := view (OpenLaw.row PySem.Challenge.rw_driftstore_k03_whole_parts).prog [53]) (H := K03.hk) (ob := DL.obHT 8 K03.fas K03.fns K03.tfs K03.exs) (M := 3000) (loose := K03.nms) (d := HandSHeadRun.topDef (OpenLaw.row PySem.Challenge.rw_driftstore_k03_whole_parts).prog 53) (kwd := []) DL.obHT_eq
    (by kernel_rfl) (fun s => by kernel_rfl) K03.run (by kernel_rfl) (by kernel_rfl) (by kernel_rfl) (by rfl) (by first | assumption | decide +kernel) (by decide +kernel) ⟨rfl, rfl, rfl, rfl, rfl, by decide +kernel⟩ ?hw ?hc
  case hw => w_witness2
  case hc =>
    refine LamX.walk_ofTsE (l := PySem.Challenge.rw_driftstore_k03_whole_parts) (n := 63) (k := 27) (x := "_law_script") (CX := fun w => L2.CX PySem.Challenge.rw_driftstore_k03_whole_parts.prog w) rfl (by decide) (by kernel_rfl) ⟨rfl, by decide, by decide⟩ ?F (fun w H s e s' z => DL.cx_no z)
    intro w mg fa h Y G hmg0
    obtain ⟨K, KX, c⟩ := Y
    have hmg : mg ("law" : PySem.Str) = some (.ref fa) := by
      have e : (HandSHeadRun.topDef (OpenLaw.row PySem.Challenge.rw_driftstore_k03_whole_parts).prog 53).name = ("law" : PySem.Str) := by kernel_rfl
      rw [← e]
      exact hmg0
    exact ⟨K, KX, K03.law_at K03.holds KX G c hmg⟩
