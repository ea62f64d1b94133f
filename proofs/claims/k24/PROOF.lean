import PyProof.Rows.All
import Wide.All
import OpenK.AllK
import Wide.FinOn
import HandS.ForMost
import HandS.Sort
import HandS.TupLen
import HandS.IsInst
import KE.KDictDisplayH
import KE.KeyNested
import HandS.More
import HandS.Codes
import PySem.Challenge.RW_duskround_k24_whole_stairs_without_strid
set_option Elab.async false
set_option linter.all false
/-! Patterns, their settings, spans over the rests by p, and how many sums a row of stairs has. Plain Lean. -/
namespace D24
abbrev Pat := List (Int × Int)

/-- the setting that is read first at a place -/
def val : Pat → Int → Int
  | [], _ => 0
  | q :: r, x => if q.1 = x then q.2 else val r x
/-- all settings at a place put together, keys of any kind -/
def sumAt {κ : Type} [DecidableEq κ] : List (κ × Int) → κ → Int
  | [], _ => 0
  | q :: r, x => (if q.1 = x then q.2 else 0) + sumAt r x
structure Canon (p : Int) (R : Pat) : Prop where
  inc : R.Pairwise (fun a b => a.1 < b.1)
  pos : ∀ q ∈ R, 0 < q.2 ∧ q.2 < p
def Bd (R : Pat) : Prop := ∀ q ∈ R, -6 ≤ q.1 ∧ q.1 ≤ 6

theorem sumAt_append {κ : Type} [DecidableEq κ] : ∀ (a b : List (κ × Int)) (x : κ), sumAt (a ++ b) x = sumAt a x + sumAt b x
  | [], b, x => by show sumAt b x = 0 + sumAt b x; omega
  | q :: r, b, x => by
    show (if q.1 = x then q.2 else 0) + sumAt (r ++ b) x = (if q.1 = x then q.2 else 0) + sumAt r x + sumAt b x
    rw [sumAt_append r b x]; omega
theorem sumAt_out {κ : Type} [DecidableEq κ] : ∀ {a : List (κ × Int)} {x : κ}, (∀ q ∈ a, q.1 ≠ x) → sumAt a x = 0
  | [], _, _ => rfl
  | q :: r, x, h => by
    show (if q.1 = x then q.2 else 0) + sumAt r x = 0
    rw [if_neg (h q List.mem_cons_self), sumAt_out fun z hz => h z (List.mem_cons_of_mem _ hz)]; rfl
theorem val_out : ∀ {a : Pat} {x : Int}, (∀ q ∈ a, q.1 ≠ x) → val a x = 0
  | [], _, _ => rfl
  | q :: r, x, h => by
    show (if q.1 = x then q.2 else val r x) = 0
    rw [if_neg (h q List.mem_cons_self), val_out fun z hz => h z (List.mem_cons_of_mem _ hz)]
theorem val_mem : ∀ {a : Pat} {x : Int}, val a x ≠ 0 → (x, val a x) ∈ a
  | [], _, h => absurd rfl h
  | q :: r, x, h => by
    show (x, if q.1 = x then q.2 else val r x) ∈ q :: r
    have h' : (if q.1 = x then q.2 else val r x) ≠ 0 := h
    by_cases e : q.1 = x
    · rw [if_pos e, ← e]; exact List.mem_cons_self
    · rw [if_neg e] at h' ⊢; exact List.mem_cons_of_mem _ (val_mem h')
theorem Canon.tail {p : Int} {q : Int × Int} {r : Pat} (h : Canon p (q :: r)) : Canon p r :=
  ⟨(List.pairwise_cons.mp h.inc).2, fun z hz => h.pos z (List.mem_cons_of_mem _ hz)⟩
theorem Canon.head {p : Int} {q : Int × Int} {r : Pat} (h : Canon p (q :: r)) : ∀ z ∈ r, q.1 < z.1 := (List.pairwise_cons.mp h.inc).1
theorem Canon.nil {p : Int} : Canon p [] := ⟨List.Pairwise.nil, fun _ h => nomatch h⟩
theorem Bd.nil : Bd [] := fun _ h => nomatch h
theorem Bd.tail {q : Int × Int} {r : Pat} (h : Bd (q :: r)) : Bd r := fun z hz => h z (List.mem_cons_of_mem _ hz)
theorem canon_val {p : Int} : ∀ {R : Pat}, Canon p R → ∀ q ∈ R, val R q.1 = q.2
  | [], _, _, h => nomatch h
  | z :: r, hc, q, hq => by
    show (if z.1 = q.1 then z.2 else val r q.1) = q.2
    rcases List.mem_cons.mp hq with e | hq
    · rw [e, if_pos rfl]
    · have := hc.head q hq
      rw [if_neg (by omega)]; exact canon_val hc.tail q hq
theorem canon_sum {p : Int} : ∀ {R : Pat}, Canon p R → ∀ x, sumAt R x = val R x
  | [], _, _ => rfl
  | z :: r, hc, x => by
    show (if z.1 = x then z.2 else 0) + sumAt r x = if z.1 = x then z.2 else val r x
    by_cases e : z.1 = x
    · rw [if_pos e, if_pos e, sumAt_out fun q hq => by have := hc.head q hq; omega]; omega
    · rw [if_neg e, if_neg e, canon_sum hc.tail x]; omega
theorem canon_range {p : Int} (hp : 0 < p) {R : Pat} (h : Canon p R) (x : Int) : 0 ≤ val R x ∧ val R x < p := by
  by_cases e : val R x = 0
  · omega
  · have := h.pos _ (val_mem e)
    simp only at this; omega
theorem canon_mod {p : Int} (hp : 0 < p) {R : Pat} (h : Canon p R) (x : Int) : val R x % p = val R x :=
  Int.emod_eq_of_lt (canon_range hp h x).1 (canon_range hp h x).2
theorem canon_ext {p : Int} : ∀ {R S : Pat}, Canon p R → Canon p S → (∀ x, val R x = val S x) → R = S
  | [], [], _, _, _ => rfl
  | [], z :: r, _, hs, e => by
    have h1 := e z.1
    rw [canon_val hs z List.mem_cons_self] at h1
    have := hs.pos z List.mem_cons_self
    exact absurd (show (0 : Int) = z.2 from h1) (by omega)
  | z :: r, [], hr, _, e => by
    have h1 := e z.1
    rw [canon_val hr z List.mem_cons_self] at h1
    have := hr.pos z List.mem_cons_self
    exact absurd (show z.2 = (0 : Int) from h1) (by omega)
  | z :: r, w :: s, hr, hs, e => by
    have hz := hr.pos z List.mem_cons_self
    have hw := hs.pos w List.mem_cons_self
    have k1 : z.1 = w.1 := by
      have h1 := e z.1
      have h2 := e w.1
      rw [canon_val hr z List.mem_cons_self] at h1
      rw [canon_val hs w List.mem_cons_self] at h2
      have m1 := val_mem (a := w :: s) (x := z.1) (by omega)
      have m2 := val_mem (a := z :: r) (x := w.1) (by omega)
      rcases List.mem_cons.mp m1 with q | q
      · rw [← q]
      · rcases List.mem_cons.mp m2 with q' | q'
        · rw [← q']
        · have a1 := hs.head _ q
          have a2 := hr.head _ q'
          simp only at a1 a2; omega
    have k2 : z.2 = w.2 := by
      have h1 := e z.1
      rw [canon_val hr z List.mem_cons_self, k1, canon_val hs w List.mem_cons_self] at h1
      exact h1
    have k : z = w := Prod.ext k1 k2
    subst k
    have : r = s := canon_ext hr.tail hs.tail fun x => by
      have h1 : (if z.1 = x then z.2 else val r x) = if z.1 = x then z.2 else val s x := e x
      by_cases ex : z.1 = x
      · rw [val_out fun q hq => by have := hr.head q hq; omega, val_out fun q hq => by have := hs.head q hq; omega]
      · rw [if_neg ex, if_neg ex] at h1; exact h1
    rw [this]
theorem bd_val {R : Pat} (h : Bd R) {x : Int} (hx : val R x ≠ 0) : -6 ≤ x ∧ x ≤ 6 := h _ (val_mem hx)
theorem bd_of {p : Int} {R : Pat} (hc : Canon p R) (h : ∀ x, val R x ≠ 0 → -6 ≤ x ∧ x ≤ 6) : Bd R := fun q hq => h q.1 (by rw [canon_val hc q hq]; have := hc.pos q hq; omega)
theorem canon_nil_of {p : Int} {R : Pat} (hc : Canon p R) (h : ∀ x, val R x = 0) : R = [] := canon_ext hc Canon.nil h

/-! ### spans -/
def InSp (p : Int) : List Pat → (Int → Int) → Prop
  | [], f => ∀ x, p ∣ f x
  | v :: vs, f => ∃ c : Int, InSp p vs (fun x => f x - c * val v x)
theorem InSp.congr {p : Int} : ∀ {vs : List Pat} {f g : Int → Int}, (∀ x, p ∣ f x - g x) → InSp p vs f → InSp p vs g
  | [], f, g, h, hf => fun x => by
    have h1 := hf x
    have h2 := h x
    have : g x = f x - (f x - g x) := by omega
    rw [this]; exact Int.dvd_sub h1 h2
  | v :: vs, f, g, h, hf => by
    obtain ⟨c, hc⟩ := hf
    exact ⟨c, InSp.congr (fun x => by have := h x; rw [show f x - c * val v x - (g x - c * val v x) = f x - g x by omega]; exact this) hc⟩
theorem InSp.zero {p : Int} : ∀ {vs : List Pat}, InSp p vs (fun _ => 0)
  | [] => fun _ => Int.dvd_zero _
  | v :: vs => ⟨0, InSp.congr (fun x => by rw [Int.zero_mul]; exact Int.dvd_zero _) (InSp.zero (vs := vs))⟩
theorem InSp.of_dvd {p : Int} {vs : List Pat} {f : Int → Int} (h : ∀ x, p ∣ f x) : InSp p vs f := InSp.congr (fun x => by
  rw [Int.zero_sub]; exact Int.dvd_neg.mpr (h x)) InSp.zero
theorem InSp.add {p : Int} : ∀ {vs : List Pat} {f g : Int → Int}, InSp p vs f → InSp p vs g → InSp p vs (fun x => f x + g x)
  | [], f, g, hf, hg => fun x => Int.dvd_add (hf x) (hg x)
  | v :: vs, f, g, ⟨c, hc⟩, ⟨d, hd⟩ => ⟨c + d, InSp.congr (fun x => by
      rw [show f x - c * val v x + (g x - d * val v x) - (f x + g x - (c + d) * val v x) = 0 by rw [Int.add_mul]; omega]; exact Int.dvd_zero _) (InSp.add hc hd)⟩
theorem InSp.smul {p : Int} (k : Int) : ∀ {vs : List Pat} {f : Int → Int}, InSp p vs f → InSp p vs (fun x => k * f x)
  | [], f, hf => fun x => Int.dvd_mul_of_dvd_right (hf x)
  | v :: vs, f, ⟨c, hc⟩ => ⟨k * c, InSp.congr (fun x => by
      rw [show k * (f x - c * val v x) - (k * f x - k * c * val v x) = 0 by rw [Int.mul_sub, Int.mul_assoc]; omega]; exact Int.dvd_zero _) (InSp.smul k hc)⟩
theorem InSp.neg {p : Int} {vs : List Pat} {f : Int → Int} (h : InSp p vs f) : InSp p vs (fun x => - f x) :=
  InSp.congr (fun x => by rw [show -1 * f x - -f x = 0 by omega]; exact Int.dvd_zero _) (h.smul (-1))
theorem InSp.sub {p : Int} {vs : List Pat} {f g : Int → Int} (hf : InSp p vs f) (hg : InSp p vs g) : InSp p vs (fun x => f x - g x) :=
  InSp.congr (fun x => by rw [show f x + -g x - (f x - g x) = 0 by omega]; exact Int.dvd_zero _) (hf.add hg.neg)
theorem InSp.tail {p : Int} {v : Pat} {vs : List Pat} {f : Int → Int} (h : InSp p vs f) : InSp p (v :: vs) f :=
  ⟨0, InSp.congr (fun x => by rw [show f x - (f x - 0 * val v x) = 0 by omega]; exact Int.dvd_zero _) h⟩
theorem InSp.mem {p : Int} : ∀ {vs : List Pat} {v : Pat}, v ∈ vs → InSp p vs (val v)
  | w :: vs, v, h => by
    rcases List.mem_cons.mp h with e | h
    · subst e
      exact ⟨1, InSp.of_dvd fun x => by rw [show val v x - 1 * val v x = 0 by omega]; exact Int.dvd_zero _⟩
    · exact (InSp.mem h).tail
theorem InSp.mono {p : Int} : ∀ {vs ws : List Pat} {f : Int → Int}, (∀ v ∈ vs, InSp p ws (val v)) → InSp p vs f → InSp p ws f
  | [], ws, f, _, hf => InSp.of_dvd hf
  | v :: vs, ws, f, h, ⟨c, hc⟩ => by
    have h1 := InSp.mono (fun w hw => h w (List.mem_cons_of_mem _ hw)) hc
    have h2 := (h v List.mem_cons_self).smul c
    exact InSp.congr (fun x => by rw [show f x - c * val v x + c * val v x - f x = 0 by omega]; exact Int.dvd_zero _) (h1.add h2)
/-- the same sums -/
def SpEq (p : Int) (A B : List Pat) : Prop := ∀ f, InSp p A f ↔ InSp p B f
theorem SpEq.of {p : Int} {A B : List Pat} (h1 : ∀ v ∈ A, InSp p B (val v)) (h2 : ∀ v ∈ B, InSp p A (val v)) : SpEq p A B := fun _ => ⟨InSp.mono h1, InSp.mono h2⟩
theorem SpEq.refl {p : Int} (A : List Pat) : SpEq p A A := fun _ => Iff.rfl
theorem SpEq.trans {p : Int} {A B C : List Pat} (h1 : SpEq p A B) (h2 : SpEq p B C) : SpEq p A C := fun f => (h1 f).trans (h2 f)
theorem SpEq.symm {p : Int} {A B : List Pat} (h1 : SpEq p A B) : SpEq p B A := fun f => (h1 f).symm
theorem SpEq.cons {p : Int} {A B : List Pat} (v : Pat) (h : SpEq p A B) : SpEq p (v :: A) (v :: B) := fun f =>
  ⟨fun ⟨c, hc⟩ => ⟨c, (h _).mp hc⟩, fun ⟨c, hc⟩ => ⟨c, (h _).mpr hc⟩⟩
theorem SpEq.mem {p : Int} {A B : List Pat} (h : ∀ v, v ∈ A ↔ v ∈ B) : SpEq p A B := SpEq.of (fun v hv => InSp.mem ((h v).mp hv)) fun v hv => InSp.mem ((h v).mpr hv)

/-! ### rows of stairs -/
/-- the lowest place is at, its setting 1 -/
structure Lead (p : Int) (at_ : Int) (R : Pat) : Prop where
  can : Canon p R
  bd : Bd R
  one : val R at_ = 1
  low : ∀ x, x < at_ → val R x = 0
/-- a row of stairs, leads rising -/
inductive SEch (p : Int) : List (Int × Pat) → Prop
  | nil : SEch p []
  | cons {a : Int} {v : Pat} {r : List (Int × Pat)} : Lead p a v → (∀ q ∈ r, a < q.1) → SEch p r → SEch p ((a, v) :: r)
theorem SEch.lead {p : Int} {S : List (Int × Pat)} (h : SEch p S) : ∀ q ∈ S, Lead p q.1 q.2 := by
  induction h with
  | nil => intro q hq; exact nomatch hq
  | cons l _ _ ih =>
    intro q hq
    rcases List.mem_cons.mp hq with e | hq
    · rw [e]; exact l
    · exact ih q hq
theorem InSp.below {p : Int} : ∀ {S : List (Int × Pat)} {f : Int → Int} {x : Int}, (∀ q ∈ S, x < q.1 ∧ Lead p q.1 q.2) → InSp p (S.map (·.2)) f → p ∣ f x
  | [], f, x, _, hf => hf x
  | q :: S, f, x, h, ⟨c, hc⟩ => by
    have h1 := InSp.below (fun z hz => h z (List.mem_cons_of_mem _ hz)) hc
    obtain ⟨h2, h3⟩ := h q List.mem_cons_self
    rw [h3.low x h2, Int.mul_zero, Int.sub_zero] at h1
    exact h1
/-- a sum of stairs that is dark at every lead is dark -/
theorem SEch.dark {p : Int} {S : List (Int × Pat)} (h : SEch p S) : ∀ {f : Int → Int}, InSp p (S.map (·.2)) f → (∀ q ∈ S, p ∣ f q.1) → ∀ x, p ∣ f x := by
  induction h with
  | nil => intro f hf _ x; exact hf x
  | @cons a v r l hlt hr ih =>
    intro f hf hd
    obtain ⟨c, hc⟩ := hf
    have h1 : p ∣ f a - c * val v a := InSp.below (f := fun x => f x - c * val v x) (x := a) (fun q hq => ⟨hlt q hq, hr.lead q hq⟩) hc
    rw [l.one, Int.mul_one] at h1
    have h2 : p ∣ f a := hd (a, v) List.mem_cons_self
    have h3 : p ∣ c := by
      have : c = f a - (f a - c) := by omega
      rw [this]; exact Int.dvd_sub h2 h1
    have h4 : InSp p (r.map (·.2)) f := InSp.congr (fun x => by
      rw [show f x - c * val v x - f x = -(c * val v x) by omega]
      exact Int.dvd_neg.mpr (Int.dvd_mul_of_dvd_left h3)) hc
    exact ih h4 fun q hq => hd q (List.mem_cons_of_mem _ hq)

/-! ### a pattern by its settings -/
def places : List Int := (List.range 13).map fun (i : Nat) => (i : Int) - 6
theorem mem_places {x : Int} : x ∈ places ↔ -6 ≤ x ∧ x ≤ 6 := by
  constructor
  · intro h
    obtain ⟨i, hi, e⟩ := List.mem_map.mp h
    have := List.mem_range.mp hi
    omega
  · intro h
    exact List.mem_map.mpr ⟨(x + 6).toNat, List.mem_range.mpr (by omega), by omega⟩
theorem places_inc : places.Pairwise (· < ·) := by decide
def pick {κ : Type} (p : Int) (f : κ → Int) : List κ → List (κ × Int)
  | [] => []
  | x :: r => if f x % p = 0 then pick p f r else (x, f x % p) :: pick p f r
theorem pick_mem {κ : Type} {p : Int} {f : κ → Int} : ∀ {l : List κ} {q : κ × Int}, q ∈ pick p f l → q.1 ∈ l ∧ q.2 = f q.1 % p ∧ q.2 ≠ 0
  | [], _, h => nomatch h
  | x :: r, q, h => by
    unfold pick at h
    by_cases e : f x % p = 0
    · rw [if_pos e] at h
      obtain ⟨h1, h2⟩ := pick_mem h
      exact ⟨List.mem_cons_of_mem _ h1, h2⟩
    · rw [if_neg e] at h
      rcases List.mem_cons.mp h with z | h
      · rw [z]; exact ⟨List.mem_cons_self, rfl, e⟩
      · obtain ⟨h1, h2⟩ := pick_mem h
        exact ⟨List.mem_cons_of_mem _ h1, h2⟩
theorem pick_snoc {κ : Type} {p : Int} {f : κ → Int} (x : κ) : ∀ l : List κ, pick p f (l ++ [x]) = pick p f l ++ (if f x % p = 0 then [] else [(x, f x % p)])
  | [] => by
    show (if f x % p = 0 then pick p f [] else (x, f x % p) :: pick p f []) = [] ++ _
    rfl
  | y :: l => by
    have ih := pick_snoc (p := p) (f := f) x l
    show (if f y % p = 0 then pick p f (l ++ [x]) else (y, f y % p) :: pick p f (l ++ [x])) = (if f y % p = 0 then pick p f l else (y, f y % p) :: pick p f l) ++ _
    rw [ih]
    split <;> rfl
theorem pick_length {κ : Type} {p : Int} {f : κ → Int} : ∀ l : List κ, (pick p f l).length ≤ l.length
  | [] => Nat.le_refl _
  | y :: l => by
    have ih := pick_length (p := p) (f := f) l
    unfold pick
    split
    · rw [List.length_cons]; omega
    · rw [List.length_cons, List.length_cons]; omega
theorem pick_nodup {κ : Type} {p : Int} {f : κ → Int} : ∀ {l : List κ}, l.Nodup → ((pick p f l).map (·.1)).Nodup
  | [], _ => List.nodup_nil
  | y :: l, h => by
    obtain ⟨h1, h2⟩ := List.nodup_cons.mp h
    unfold pick
    split
    · exact pick_nodup h2
    · rw [List.map_cons]
      refine List.nodup_cons.mpr ⟨fun m => ?_, pick_nodup h2⟩
      obtain ⟨q, hq, e⟩ := List.mem_map.mp m
      exact h1 (by rw [← show q.1 = y from e]; exact (pick_mem hq).1)
theorem pick_inc {p : Int} {f : Int → Int} : ∀ {l : List Int}, l.Pairwise (· < ·) → (pick p f l).Pairwise (fun a b => a.1 < b.1)
  | [], _ => List.Pairwise.nil
  | x :: r, h => by
    obtain ⟨h1, h2⟩ := List.pairwise_cons.mp h
    unfold pick
    by_cases e : f x % p = 0
    · rw [if_pos e]; exact pick_inc h2
    · rw [if_neg e]
      exact List.pairwise_cons.mpr ⟨fun q hq => h1 _ (pick_mem hq).1, pick_inc h2⟩
theorem pick_val {p : Int} {f : Int → Int} : ∀ {l : List Int} {x : Int}, x ∈ l → val (pick p f l) x = f x % p
  | y :: r, x, h => by
    unfold pick
    by_cases e : f y % p = 0
    · rw [if_pos e]
      by_cases hx : x ∈ r
      · exact pick_val hx
      · have : x = y := (List.mem_cons.mp h).resolve_right hx
        rw [this, e, val_out fun q hq z => hx (by rw [this, ← z]; exact (pick_mem hq).1)]
    · rw [if_neg e]
      show (if y = x then f y % p else val (pick p f r) x) = f x % p
      by_cases z : y = x
      · rw [if_pos z, z]
      · rw [if_neg z]
        exact pick_val ((List.mem_cons.mp h).resolve_left fun w => z w.symm)
theorem pick_canon {p : Int} (hp : 0 < p) {f : Int → Int} {l : List Int} (h : l.Pairwise (· < ·)) : Canon p (pick p f l) :=
  ⟨pick_inc h, fun q hq => by
    obtain ⟨_, h2, h3⟩ := pick_mem hq
    have a := Int.emod_nonneg (f q.1) (show p ≠ 0 by omega)
    have b := Int.emod_lt_of_pos (f q.1) hp
    omega⟩
def canonF (p : Int) (f : Int → Int) : Pat := pick p f places
theorem canonF_canon {p : Int} (hp : 0 < p) (f : Int → Int) : Canon p (canonF p f) := pick_canon hp places_inc
theorem canonF_bd {p : Int} (f : Int → Int) : Bd (canonF p f) := fun q hq => mem_places.mp (pick_mem hq).1
theorem canonF_val {p : Int} {f : Int → Int} (h : ∀ x, f x % p ≠ 0 → -6 ≤ x ∧ x ≤ 6) (x : Int) : val (canonF p f) x = f x % p := by
  by_cases e : -6 ≤ x ∧ x ≤ 6
  · exact pick_val (mem_places.mpr e)
  · have e2 : f x % p = 0 := Classical.byContradiction fun z => e (h x z)
    rw [e2]
    exact val_out fun q hq z => e (by rw [← z]; exact canonF_bd f q hq)

/-! ### all sums, one by one -/
def en (p : Int) : List Pat → List Pat
  | [] => [[]]
  | v :: vs => (List.range p.toNat).flatMap fun (c : Nat) => (en p vs).map fun a => canonF p (fun x => val a x + (c : Int) * val v x)
theorem length_flatMap_const {α β : Type} (f : α → List β) (n : Nat) : ∀ l : List α, (∀ a ∈ l, (f a).length = n) → (l.flatMap f).length = l.length * n
  | [], _ => by simp
  | a :: l, h => by
    rw [List.flatMap_cons, List.length_append, h a List.mem_cons_self, length_flatMap_const f n l fun b hb => h b (List.mem_cons_of_mem _ hb), List.length_cons, Nat.succ_mul]
    omega
theorem en_length {p : Int} : ∀ vs : List Pat, (en p vs).length = p.toNat ^ vs.length
  | [] => rfl
  | v :: vs => by
    unfold en
    rw [length_flatMap_const _ ((en p vs).length) _ (fun c _ => by rw [List.length_map]), List.length_range, en_length vs, List.length_cons, Nat.pow_succ, Nat.mul_comm]
theorem bd_comb {p : Int} {a v : Pat} {c : Int} (ha : Bd a) (hv : Bd v) (x : Int) (h : (val a x + c * val v x) % p ≠ 0) : -6 ≤ x ∧ x ≤ 6 := by
  by_cases e1 : val a x = 0
  · by_cases e2 : val v x = 0
    · rw [e1, e2, Int.mul_zero] at h
      exact absurd (Int.zero_emod p) h
    · exact bd_val hv e2
  · exact bd_val ha e1
theorem dvd_emod_sub {p a : Int} : p ∣ a % p - a := by
  have h := Int.mul_ediv_add_emod a p
  exact ⟨-(a / p), by rw [Int.mul_neg]; omega⟩
theorem dvd_sub_emod {p a : Int} : p ∣ a - a % p := by
  have h := Int.mul_ediv_add_emod a p
  exact ⟨a / p, by omega⟩
theorem en_mem {p : Int} (hp : 0 < p) : ∀ {vs : List Pat}, (∀ v ∈ vs, Bd v) → ∀ {a : Pat}, a ∈ en p vs ↔ (Canon p a ∧ Bd a ∧ InSp p vs (val a))
  | [], _, a => by
    unfold en
    constructor
    · intro h
      have e : a = [] := by simpa using h
      subst e
      exact ⟨Canon.nil, Bd.nil, fun x => Int.dvd_zero _⟩
    · rintro ⟨hc, _, h⟩
      have : a = [] := canon_nil_of hc fun x => by
        have h1 := h x
        have h2 := canon_range hp hc x
        have h3 := canon_mod hp hc x
        rw [Int.emod_eq_zero_of_dvd h1] at h3
        exact h3.symm
      rw [this]; exact List.mem_cons_self
  | v :: vs, hb, a => by
    have hv : Bd v := hb v List.mem_cons_self
    have hvs : ∀ w ∈ vs, Bd w := fun w hw => hb w (List.mem_cons_of_mem _ hw)
    have ih := fun {b : Pat} => en_mem hp hvs (a := b)
    unfold en
    constructor
    · intro h
      obtain ⟨c, hc, h⟩ := List.mem_flatMap.mp h
      obtain ⟨b, hb', rfl⟩ := List.mem_map.mp h
      obtain ⟨b1, b2, b3⟩ := ih.mp hb'
      refine ⟨canonF_canon hp _, canonF_bd _, (c : Int), ?_⟩
      refine InSp.congr (fun x => ?_) b3
      rw [canonF_val (bd_comb b2 hv)]
      have h1 : p ∣ (val b x + (c : Int) * val v x) - (val b x + (c : Int) * val v x) % p := dvd_sub_emod
      rw [show val b x - ((val b x + (c : Int) * val v x) % p - (c : Int) * val v x) = (val b x + (c : Int) * val v x) - (val b x + (c : Int) * val v x) % p by omega]
      exact h1
    · rintro ⟨hc, hbd, c, h⟩
      refine List.mem_flatMap.mpr ⟨(c % p).toNat, List.mem_range.mpr ?_, ?_⟩
      · have h1 := Int.emod_lt_of_pos c hp
        have h2 := Int.emod_nonneg c (show p ≠ 0 by omega)
        omega
      · have ec : (((c % p).toNat : Nat) : Int) = c % p := by
          have h2 := Int.emod_nonneg c (show p ≠ 0 by omega)
          omega
        have cm : ∀ y : Int, p ∣ c * y - c % p * y := fun y => by
          rw [← Int.sub_mul]; exact Int.dvd_mul_of_dvd_left dvd_sub_emod
        refine List.mem_map.mpr ⟨canonF p (fun x => val a x + (-c) * val v x), ih.mpr ⟨canonF_canon hp _, canonF_bd _, ?_⟩, ?_⟩
        · refine InSp.congr (fun x => ?_) h
          rw [canonF_val (bd_comb hbd hv), show val a x - c * val v x = val a x + -c * val v x by rw [Int.neg_mul]; omega]
          exact dvd_sub_emod
        · rw [ec]
          refine canon_ext (canonF_canon hp _) hc fun x => ?_
          rw [canonF_val (bd_comb (canonF_bd _) hv), canonF_val (bd_comb hbd hv)]
          have h3 : (val a x + -c * val v x) % p + c % p * val v x = val a x + (-(val a x + -c * val v x - (val a x + -c * val v x) % p) - (c * val v x - c % p * val v x)) := by
            rw [Int.neg_mul]; omega
          have h4 : p ∣ (-(val a x + -c * val v x - (val a x + -c * val v x) % p) - (c * val v x - c % p * val v x)) := Int.dvd_sub (Int.dvd_neg.mpr dvd_sub_emod) (cm _)
          obtain ⟨k, hk⟩ := h4
          rw [h3, hk, Int.add_mul_emod_self_left]
          exact canon_mod hp hc x
theorem nodup_flatMap {α β : Type} (f : α → List β) : ∀ l : List α, l.Nodup → (∀ a ∈ l, (f a).Nodup) → (∀ a ∈ l, ∀ b ∈ l, a ≠ b → ∀ x ∈ f a, x ∉ f b) → (l.flatMap f).Nodup
  | [], _, _, _ => by simp
  | a :: l, hn, h1, h2 => by
    rw [List.flatMap_cons]
    obtain ⟨n1, n2⟩ := List.nodup_cons.mp hn
    refine List.nodup_append.mpr ⟨h1 a List.mem_cons_self, nodup_flatMap f l n2 (fun b hb => h1 b (List.mem_cons_of_mem _ hb)) fun b hb c hc => h2 b (List.mem_cons_of_mem _ hb) c (List.mem_cons_of_mem _ hc), ?_⟩
    intro x hx y hy e
    subst e
    obtain ⟨b, hb, hxb⟩ := List.mem_flatMap.mp hy
    exact h2 a List.mem_cons_self b (List.mem_cons_of_mem _ hb) (fun e => n1 (e ▸ hb)) x hx hxb
theorem nodup_map_inj {α β : Type} {f : α → β} : ∀ {l : List α}, l.Nodup → (∀ a ∈ l, ∀ b ∈ l, f a = f b → a = b) → (l.map f).Nodup
  | [], _, _ => by simp
  | a :: l, hn, h => by
    obtain ⟨n1, n2⟩ := List.nodup_cons.mp hn
    rw [List.map_cons]
    refine List.nodup_cons.mpr ⟨fun hm => ?_, nodup_map_inj n2 fun b hb c hc => h b (List.mem_cons_of_mem _ hb) c (List.mem_cons_of_mem _ hc)⟩
    obtain ⟨b, hb, e⟩ := List.mem_map.mp hm
    have := h b (List.mem_cons_of_mem _ hb) a List.mem_cons_self e
    exact n1 (this ▸ hb)
theorem en_nodup {p : Int} (hp : 0 < p) {S : List (Int × Pat)} (h : SEch p S) : (en p (S.map (·.2))).Nodup := by
  induction h with
  | nil => exact List.nodup_cons.mpr ⟨by simp, List.nodup_nil⟩
  | @cons a v r l hlt hr ih =>
    have hbs : ∀ w ∈ r.map (·.2), Bd w := fun w hw => by
      obtain ⟨q, hq, e⟩ := List.mem_map.mp hw
      rw [← e]; exact (hr.lead q hq).bd
    rw [List.map_cons]
    unfold en
    -- the setting at the lead tells c
    have zero : ∀ b ∈ en p (r.map (·.2)), val b a = 0 := fun b hb => by
      obtain ⟨b1, b2, b3⟩ := (en_mem hp hbs).mp hb
      have h1 : p ∣ val b a := InSp.below (fun q hq => ⟨hlt q hq, hr.lead q hq⟩) b3
      have h3 := canon_mod hp b1 a
      rw [Int.emod_eq_zero_of_dvd h1] at h3
      exact h3.symm
    have at_ : ∀ (c : Nat) (b : Pat), c < p.toNat → b ∈ en p (r.map (·.2)) → val (canonF p (fun x => val b x + (c : Int) * val v x)) a = (c : Int) := fun c b hc hb => by
      obtain ⟨b1, b2, b3⟩ := (en_mem hp hbs).mp hb
      rw [canonF_val (bd_comb b2 l.bd), zero b hb, l.one, Int.mul_one, Int.zero_add]
      exact Int.emod_eq_of_lt (by omega) (by omega)
    refine nodup_flatMap _ _ List.nodup_range (fun c hc => ?_) fun c hc d hd hne x hx hx' => ?_
    · refine nodup_map_inj ih fun b hb b' hb' e => ?_
      obtain ⟨b1, b2, b3⟩ := (en_mem hp hbs).mp hb
      obtain ⟨b1', b2', b3'⟩ := (en_mem hp hbs).mp hb'
      refine canon_ext b1 b1' fun x => ?_
      have e2 := congrArg (fun z => val z x) e
      simp only at e2
      rw [canonF_val (bd_comb b2 l.bd), canonF_val (bd_comb b2' l.bd)] at e2
      have e3 := Int.emod_emod_of_dvd (val b x) (Int.dvd_refl p)
      have k : (val b x) % p = (val b' x) % p := by
        have := Int.emod_add_cancel_right (m := val b x) (k := val b' x) (n := p) ((c : Int) * val v x)
        exact this.mp e2
      rw [canon_mod hp b1, canon_mod hp b1'] at k
      exact k
    · obtain ⟨b, hb, e⟩ := List.mem_map.mp hx
      obtain ⟨b', hb', e'⟩ := List.mem_map.mp hx'
      have h1 := at_ c b (List.mem_range.mp hc) hb
      have h2 := at_ d b' (List.mem_range.mp hd) hb'
      rw [e] at h1
      rw [e'] at h2
      exact hne (by omega)
theorem nodup_sub_length {α : Type} [DecidableEq α] : ∀ {l m : List α}, l.Nodup → (∀ x ∈ l, x ∈ m) → l.length ≤ m.length
  | [], _, _, _ => Nat.zero_le _
  | a :: l, m, hn, h => by
    obtain ⟨n1, n2⟩ := List.nodup_cons.mp hn
    have ha := h a List.mem_cons_self
    have h1 := nodup_sub_length (l := l) (m := m.erase a) n2 fun x hx => (List.mem_erase_of_ne (fun e : x = a => n1 (by rw [← e]; exact hx))).mpr (h x (List.mem_cons_of_mem _ hx))
    have h2 := List.length_erase_of_mem ha
    have h3 : 0 < m.length := List.length_pos_of_mem ha
    rw [List.length_cons]; omega
theorem nodup_inc : ∀ {l : List Int}, l.Pairwise (· < ·) → l.Nodup := fun {l} h => List.Pairwise.imp (fun {a b} (x : a < b) => Int.ne_of_lt x) h
theorem canon_len {p : Int} {R : Pat} (hc : Canon p R) (hb : Bd R) : R.length ≤ 13 := by
  have h1 : (R.map (·.1)).Pairwise (· < ·) := List.pairwise_map.mpr hc.inc
  have h2 := nodup_sub_length (m := places) (nodup_inc h1) fun x hx => by
    obtain ⟨q, hq, e⟩ := List.mem_map.mp hx
    rw [← e]; exact mem_places.mpr (hb q hq)
  rw [List.length_map] at h2
  exact Nat.le_trans h2 (by decide)
/-- COUNT: as many sums as the stairs tell -/
theorem count_sums {p : Int} (hp : 0 < p) {S : List (Int × Pat)} (h : SEch p S) {L : List Pat} (hn : L.Nodup) (hm : ∀ a, a ∈ L ↔ (Canon p a ∧ Bd a ∧ InSp p (S.map (·.2)) (val a))) : L.length = p.toNat ^ S.length := by
  have hbs : ∀ w ∈ S.map (·.2), Bd w := fun w hw => by
    obtain ⟨q, hq, e⟩ := List.mem_map.mp hw
    rw [← e]; exact (h.lead q hq).bd
  have h1 : L.length ≤ (en p (S.map (·.2))).length := nodup_sub_length hn fun x hx => (en_mem hp hbs).mpr ((hm x).mp hx)
  have h2 : (en p (S.map (·.2))).length ≤ L.length := nodup_sub_length (en_nodup hp h) fun x hx => (hm x).mpr ((en_mem hp hbs).mp hx)
  rw [en_length, List.length_map] at h1 h2
  omega
/-- REST: what is left is dark just where the pattern is a sum -/
theorem rest_dark {p : Int} (hp : 0 < p) {S : List (Int × Pat)} (h : SEch p S) {R F : Pat} (hR : Canon p R) (hs : InSp p (S.map (·.2)) (fun x => val F x - val R x)) (hl : ∀ q ∈ S, val R q.1 = 0) :
    R = [] ↔ InSp p (S.map (·.2)) (val F) := by
  constructor
  · intro e
    subst e
    exact InSp.congr (fun x => by show p ∣ val F x - 0 - val F x; rw [show val F x - 0 - val F x = 0 by omega]; exact Int.dvd_zero _) hs
  · intro hF
    have h1 : InSp p (S.map (·.2)) (val R) := InSp.congr (fun x => by rw [show val F x - (val F x - val R x) - val R x = 0 by omega]; exact Int.dvd_zero _) (hF.sub hs)
    have h2 := h.dark h1 fun q hq => by rw [hl q hq]; exact Int.dvd_zero _
    refine canon_nil_of hR fun x => ?_
    have h3 := canon_mod hp hR x
    rw [Int.emod_eq_zero_of_dvd (h2 x)] at h3
    exact h3.symm
end D24
set_option Elab.async false
set_option linter.all false
set_option maxRecDepth 100000
set_option maxHeartbeats 4000000
/-! What the hand layer has no rule for: a dict whose keys are patterns (tuples of pairs), sorted of a dict whose keys are pairs. -/
namespace D24
open PySem PySem.Spec PyProof.Rows L2

/-! ### patterns in the heap -/
def PairAt (H : Hp) (b : Addr) (q : Int × Int) : Prop := H b = some (.tup [.int q.1, .int q.2])
def PatAt (H : Hp) (a : Addr) (R : Pat) : Prop := ∃ as : List Addr, H a = some (.tup (as.map V.ref)) ∧ Paired (PairAt H) as R
/-- tuples stay -/
def Tk (H H' : Hp) : Prop := ∀ b xs, H b = some (.tup xs) → H' b = some (.tup xs)
theorem Tk.refl (H : Hp) : Tk H H := fun _ _ h => h
theorem Tk.trans {H H1 H2 : Hp} (a : Tk H H1) (b : Tk H1 H2) : Tk H H2 := fun c o h => b c o (a c o h)
theorem Tk.same {H H' : Hp} (s : Same H H') : Tk H H' := fun b xs h => s b _ h
theorem PairAt.keep {H H' : Hp} {b : Addr} {q : Int × Int} (t : Tk H H') (h : PairAt H b q) : PairAt H' b q := t _ _ h
theorem PatAt.keep {H H' : Hp} {a : Addr} {R : Pat} (t : Tk H H') (h : PatAt H a R) : PatAt H' a R := by
  obtain ⟨as, h1, h2⟩ := h
  exact ⟨as, t _ _ h1, Paired.mapP h2 fun _ _ z => z.keep t⟩

/-! ### a pattern as a key -/
def nkP (q : Int × Int) : NestedKey := .tup [.num q.1, .num q.2]
def nk (R : Pat) : NestedKey := .tup (R.map nkP)
theorem nkP_inj {q r : Int × Int} (h : nkP q = nkP r) : q = r := by
  unfold nkP at h
  injection h with h
  injection h with h1 h2
  injection h2 with h2 _
  injection h1 with h1
  injection h2 with h2
  exact Prod.ext h1 h2
theorem nkL_inj : ∀ {R S : Pat}, R.map nkP = S.map nkP → R = S
  | [], [], _ => rfl
  | [], _ :: _, h => by simp at h
  | _ :: _, [], h => by simp at h
  | q :: R, r :: S, h => by
    rw [List.map_cons, List.map_cons] at h
    injection h with h1 h2
    rw [nkP_inj h1, nkL_inj h2]
theorem nk_inj {R S : Pat} (h : nk R = nk S) : R = S := by
  unfold nk at h
  injection h with h
  exact nkL_inj h
theorem nkP_depth (q : Int × Int) : (nkP q).depth = 1 := by
  simp [nkP, NestedKey.depth, NestedKey.depthAll]
theorem nkL_depth : ∀ R : Pat, NestedKey.depthAll (R.map nkP) ≤ 1
  | [] => by simp [NestedKey.depthAll]
  | q :: R => by
    have ih := nkL_depth R
    rw [List.map_cons, NestedKey.depthAll, nkP_depth]
    omega
theorem nk_depth (R : Pat) : (nk R).depth ≤ 8 := by
  have := nkL_depth R
  rw [nk, NestedKey.depth]; omega
section
variable {P : Program} {w : World} {H : Hp} {h : Heap} {a : Addr}
theorem pair_nested {b : Addr} {q : Int × Int} (ok : HOk P w H h) (p : PairAt H b q) : NestedIs h (nkP q) (.ref b) := by
  obtain ⟨_, its, r, o, h1, h2, n, h3⟩ := (show ObjOk P w H h b (.tup [.int q.1, .int q.2]) from ok b _ p)
  obtain ⟨u1, u2, rfl, r1, r2⟩ := vals2 r
  obtain ⟨t1, rfl⟩ := r1
  obtain ⟨t2, rfl⟩ := r2
  exact .tup h1 h2 h3 (.cons (.int _ _) (.cons (.int _ _) .nil))
theorem pairs_nested (ok : HOk P w H h) : ∀ {as : List Addr} {R : Pat} {its : List Value}, Paired (PairAt H) as R → Vals (as.map V.ref) its → NestedAll h (R.map nkP) its
  | [], _, _, p, v => by
    cases p
    rw [List.map_nil] at v
    cases v
    exact .nil
  | b :: as, _, _, p, v => by
    cases p with
    | cons p1 p2 =>
      rw [List.map_cons] at v
      cases v with
      | cons v1 v2 =>
        cases v1
        exact .cons (pair_nested ok p1) (pairs_nested ok p2 v2)
theorem pat_is {R : Pat} (ok : HOk P w H h) (p : PatAt H a R) : (nestedKind P w).is h (nk R) a := by
  obtain ⟨as, h1, h2⟩ := p
  obtain ⟨_, its, r, o, e1, e2, n, e3⟩ := (show ObjOk P w H h a (.tup (as.map V.ref)) from ok a _ h1)
  exact ⟨.tup e1 e2 e3 (by simpa using pairs_nested ok h2 r), nk_depth R⟩
end

/-! ### a dict whose keys are patterns, all values True -/
def enc (x : Pat × Addr) : NestedKey × Addr × Value := (nk x.1, x.2, .bool true)
def NDict (P : Program) (w : World) (a : Addr) (xs : List (Pat × Addr)) (h : Heap) : Prop :=
  (a == sysModules) = false ∧ xs.length ≤ sizeLine ∧ (xs.map (·.1)).Nodup ∧ ∃ o es ep, h.get? a = some o ∧ o.ExactDict ∧ o.data = .dict es ep ∧ es.toList = (xs.map enc).map (entryOfKey (nestedKind P w))
def NO (P : Program) (w : World) (a : Addr) (xs : List (Pat × Addr)) : HO := .ext (NDict P w a xs)
def Keyed (H : Hp) (xs : List (Pat × Addr)) : Prop := ∀ x ∈ xs, PatAt H x.2 x.1
theorem Keyed.keep {H H' : Hp} {xs : List (Pat × Addr)} (t : Tk H H') (h : Keyed H xs) : Keyed H' xs := fun x hx => (h x hx).keep t
theorem Keyed.nil {H : Hp} : Keyed H [] := fun _ h => nomatch h
theorem enc_nodup {xs : List (Pat × Addr)} (h : (xs.map (·.1)).Nodup) : ((xs.map enc).map (·.1)).Nodup := by
  have e : (xs.map enc).map (·.1) = (xs.map (·.1)).map nk := by rw [List.map_map, List.map_map]; rfl
  rw [e]
  exact nodup_map_inj h fun a _ b _ q => nk_inj q
section
variable {P : Program} {w : World} {H : Hp} {h : Heap} {a : Addr} {xs : List (Pat × Addr)}
theorem no_ok (x : NDict P w a xs h) : ObjOk P w H h a (NO P w a xs) := by
  obtain ⟨z, l, n, o, es, ep, h1, r⟩ := x
  refine ⟨⟨z, l, n, o, es, ep, h1, r⟩, ⟨o, h1⟩, fun g1 g2 q k => ?_⟩
  obtain ⟨z, l, n, o, es, ep, h1, r⟩ := q
  exact ⟨z, l, n, o, es, ep, k _ h1, r⟩
theorem nd_of (ok : HOk P w H h) (e : H a = some (NO P w a xs)) : NDict P w a xs h := (show ObjOk P w H h a (NO P w a xs) from ok a _ e).1
theorem nd_dict (ok : HOk P w H h) (d : NDict P w a xs h) (k : Keyed H xs) : h.DictOfH (nestedKind P w) a (xs.map enc) := by
  obtain ⟨z, l, n, o, es, ep, h1, h2, h3, h4⟩ := d
  refine ⟨o, es, ep, h1, h2, h3, h4, fun y hy => ?_, enc_nodup n⟩
  obtain ⟨x, hx, rfl⟩ := List.mem_map.mp hy
  exact pat_is ok (k x hx)
theorem atKey_enc (R : Pat) : ∀ xs : List (Pat × Addr), (atKey (xs.map enc) (nk R)).isSome = decide (R ∈ xs.map (·.1))
  | [] => by simp [atKey]
  | x :: xs => by
    have ih := atKey_enc R xs
    by_cases e : x.1 = R
    · have q : atKey ((x :: xs).map enc) (nk R) = some (x.2, .bool true) := by simp [atKey, enc, e]
      rw [q]
      simp [e]
    · have e2 : ¬ nk x.1 = nk R := fun z => e (nk_inj z)
      have q : atKey ((x :: xs).map enc) (nk R) = atKey (xs.map enc) (nk R) := by simp [atKey, enc, e2]
      rw [q, ih]
      have e3 : ¬ R = x.1 := fun z => e z.symm
      simp [e3]
def nput (xs : List (Pat × Addr)) (R : Pat) (b : Addr) : List (Pat × Addr) := if R ∈ xs.map (·.1) then xs else xs ++ [(R, b)]
theorem putAt_enc (k : NestedKey) : ∀ xs : List (Pat × Addr), (xs.map enc).map (putAt k (.bool true)) = xs.map enc
  | [] => rfl
  | x :: xs => by
    rw [List.map_cons, List.map_cons, putAt_enc k xs]
    congr 1
    unfold putAt enc
    split <;> rfl
theorem storedH_enc (xs : List (Pat × Addr)) (R : Pat) (b : Addr) : storedH (xs.map enc) (nk R) b (.bool true) = (nput xs R b).map enc := by
  unfold storedH nput
  rw [atKey_enc]
  by_cases e : R ∈ xs.map (·.1)
  · rw [if_pos (decide_eq_true e), if_pos e, putAt_enc]
  · rw [if_neg (by simp only [decide_eq_true_eq]; exact e), if_neg e, List.map_append]; rfl
theorem nput_len (xs : List (Pat × Addr)) (R : Pat) (b : Addr) : (nput xs R b).length ≤ xs.length + 1 := by
  unfold nput
  split
  · omega
  · rw [List.length_append, List.length_singleton]; omega
theorem nput_nodup {xs : List (Pat × Addr)} (R : Pat) (b : Addr) (h : (xs.map (·.1)).Nodup) : ((nput xs R b).map (·.1)).Nodup := by
  unfold nput
  split
  · exact h
  · rename_i e
    rw [List.map_append]
    exact nd_snoc h e
theorem nput_mem {xs : List (Pat × Addr)} {R S : Pat} {b : Addr} : S ∈ (nput xs R b).map (·.1) ↔ S ∈ xs.map (·.1) ∨ S = R := by
  unfold nput
  split
  · rename_i e
    constructor
    · exact .inl
    · rintro (q | q)
      · exact q
      · rw [q]; exact e
  · rw [List.map_append, List.mem_append]
    simp
theorem nput_keyed {xs : List (Pat × Addr)} {R : Pat} {b : Addr} (k : Keyed H xs) (p : PatAt H b R) : Keyed H (nput xs R b) := by
  unfold nput
  split
  · exact k
  · intro x hx
    rcases List.mem_append.mp hx with q | q
    · exact k x q
    · rw [List.mem_singleton.mp q]; exact p
end

section
variable {X : Cx} {pins : List (Addr × Obj)} {σ : L2.St} {H : Hp} {s : Shared} {a : Addr} {xs : List (Pat × Addr)}
theorem inv_nd (I : Inv X pins σ H s) (e : H a = some (NO X.prog X.w a xs)) : NDict X.prog X.w a xs s.heap := nd_of I.hok e
theorem inv_ndd (I : Inv X pins σ H s) (e : H a = some (NO X.prog X.w a xs)) (k : Keyed H xs) : s.heap.DictOfH (nestedKind X.prog X.w) a (xs.map enc) := nd_dict I.hok (nd_of I.hok e) k

/-- {} -/
def tDNewN (X : Cx) : TE := fun _ H Q => ∀ p, H p = none → Q (.ref p) (upd H p (NO X.prog X.w p []))
theorem pe_dnewN {pos : Pos} : PE X (.Dict [] [] pos) (tDNewN X) := ⟨fun pins s σ H Q I h =>
  wpAny_Dict_empty ⟨.ref s.heap.objs.size, _, I.laid (a := s.heap.objs.size) (o := NO X.prog X.w s.heap.objs.size []) (t' := s.toks) (fun _ _ q => Heap.get?_push_of_some _ q) (Nat.le_refl _)
    (no_ok ⟨beq_eq_false_iff_ne.mpr (Ne.symm (Nat.ne_of_lt I.big)), Nat.zero_le _, List.nodup_nil, _, #[], 0, Heap.get?_push_size _ rfl, ⟨rfl, rfl, rfl⟩, rfl, rfl⟩), rfl, h _ (I.hok.fresh (Nat.le_refl _))⟩⟩

/-- d[pattern] = True -/
def sNPut (X : Cx) (td ty tv : TE) : TS := fun D σ H => tv σ H fun v H1 => td σ H1 fun x H2 => ty σ H2 fun y H3 => ∃ a xs b R, x = .ref a ∧ y = .ref b ∧ v = .bl true ∧ H3 a = some (NO X.prog X.w a xs) ∧ Keyed H3 xs ∧ PatAt H3 b R ∧ xs.length < sizeLine ∧
  D.nx σ (upd H3 a (NO X.prog X.w a (nput xs R b)))
theorem n_setItem {A : Around} {E : Value → Shared → Prop} {b : Addr} {R : Pat} {Q : Unit → Shared → Prop} (hu : A.units + 9 < cLine) (I : Inv X pins σ H s) (e : H a = some (NO X.prog X.w a xs)) (k : Keyed H xs) (p : PatAt H b R) (hl : xs.length < sizeLine)
    (h : ∀ s', Inv X pins σ (upd H a (NO X.prog X.w a (nput xs R b))) s' → Q () s') : wpAny (model X.prog X.w) A (setItem (.ref a) (.ref b) (.bool true)) Q E s := by
  have d := inv_nd I e
  obtain ⟨z, l, n, _⟩ := id d
  refine wpAny_setItem_heap (knd := nestedKind X.prog X.w) (hsz := by rw [List.length_map]; exact l) (show A.in1.units + 8 < cLine by show A.units + 1 + 8 < cLine; omega) (pat_is I.hok p) (inv_ndd I e k) fun h' dd' hs => h _ ?_
  obtain ⟨q, es, ep, hq, h2, h3, h4, _, h5⟩ := dd'
  rw [storedH_enc] at h4
  have hl2 := nput_len xs R b
  exact d_write I (by rw [e]; exact True.intro) hs ⟨q, hq⟩ (no_ok ⟨z, by omega, nput_nodup R b n, q, es, ep, hq, h2, h3, h4⟩)
theorem ps_nput {o i value : Expr} {pos pos' : Pos} {td ty tv : TE} (hu : X.A.units + 9 < cLine) (ho : PE X o td) (hi : PE X i ty) (hv : PE X value tv) (hs : swapsWith value (some (.Subscript o i pos')) pos.line X.env = pure false) :
    PS X (.Assign [.Subscript o i pos'] value pos) (sNPut X td ty tv) := by
  refine ⟨fun pins s σ H D I h => ?_⟩
  refine wpAny_Assign_Subscript (thn (hv.run pins s σ H _ I h) fun r s1 ⟨v, H1, I1, rv, q1⟩ => thn (ho.run pins s1 σ H1 _ I1 q1) fun u s2 ⟨x, H2, I2, rx, q2⟩ => thn (hi.run pins s2 σ H2 _ I2 q2) fun iv s3 ⟨y, H3, I3, ry, a, xs, b, R, ex, ey, ev, e, k, p, l, q3⟩ => ?_) hs
  subst ex
  subst ey
  subst ev
  obtain rfl : u = Value.ref a := rx
  obtain rfl : iv = Value.ref b := ry
  obtain rfl : r = Value.bool true := rv
  exact n_setItem hu I3 e k p l fun s4 I4 => ⟨σ, _, I4, q3⟩

/-- pattern in d -/
def tNIn (X : Cx) (ty td : TE) : TE := fun σ H Q => ty σ H fun y H1 => td σ H1 fun x H2 => ∃ a xs b R, x = .ref a ∧ y = .ref b ∧ H2 a = some (NO X.prog X.w a xs) ∧ Keyed H2 xs ∧ PatAt H2 b R ∧ Q (.bl (decide (R ∈ xs.map (·.1)))) H2
theorem pc_nin {i o : Expr} {ty td : TE} (hu : X.A.units + 9 < cLine) (hi : PE X i ty) (ho : PE X o td) : PC X .In i o (tNIn X ty td) := by
  refine ⟨fun pins s σ H Q I h => ?_⟩
  refine thn (hi.run pins s σ H _ I h) fun iv s1 ⟨y, H1, I1, ry, q1⟩ => thn (ho.run pins s1 σ H1 _ I1 q1) fun u s2 ⟨x, H2, I2, rx, a, xs, b, R, ex, ey, e, k, p, q2⟩ => ?_
  subst ex
  subst ey
  obtain rfl : u = Value.ref a := rx
  obtain rfl : iv = Value.ref b := ry
  refine wpAny_in_heap (knd := nestedKind X.prog X.w) (show X.A.in1.units + 8 < cLine by show X.A.units + 1 + 8 < cLine; omega) (pat_is I2.hok p) (inv_nd I2 e).1 (inv_ndd I2 e k) ?_
  rw [atKey_enc]
  exact ⟨.bl _, H2, I2.tok _, rfl, q2⟩

/-- len(d) -/
def rLenN (X : Cx) : List V → Hp → VK → Prop := fun vs H Q => ∃ a xs, vs = [.ref a] ∧ H a = some (NO X.prog X.w a xs) ∧ Keyed H xs ∧ Q (.int ((xs.length : Nat) : Int)) H
theorem call_len_N : CallR X (.builtin "len") (rLenN X) := by
  intro pins s σ H vs us Q I r h
  obtain ⟨a, xs, rfl, e, k, q⟩ := h
  obtain ⟨u, rfl, rx⟩ := vals1 r
  obtain rfl : u = .ref a := rx
  obtain ⟨z, l, n, _⟩ := inv_nd I e
  refine call_len_dictH z (inv_ndd I e k) (by rw [List.length_map]; rw [sizeLine_eq] at l; omega) ?_
  rw [List.length_map]
  exact ⟨.int ((xs.length : Nat) : Int), H, I.tok _, ⟨_, rfl⟩, q⟩

/-- a display, the keys' own addresses told -/
theorem dict_pairsH {prog : Program} {w : World} {K : Type} [DecidableEq K] {knd : HeapKind prog w K} {A : Around} {E : Value → Shared → Prop} {s : Shared} {env : Env} {keys : List (Option Expr)} {values : List Expr} {pos : Pos} {pairs : List (Sem Value × Sem Value)} {Q : Value → Shared → Prop} (hu : knd.room A)
    (hshape : (evalEachOpt keys env).zip ((evalEach values env).map fun v => do let x ← v; standAt pos; pure x) = pairs.map fun p => (some p.1, p.2)) (h0 : pairs ≠ []) (hlen : pairs.length ≤ 15)
    (h : wpAny (model prog w) A (evalPairs pairs) (fun vs s₁ => ∃ ps, CarriesH knd s₁.heap vs ps ∧ s₁.heap.DictOfH knd s.heap.objs.size [] ∧
      ∀ h' tk, h'.DictOfH knd s.heap.objs.size (storedAllH [] ps) → Heap.SameBut s.heap.objs.size s₁.heap h' → Q (.ref s.heap.objs.size) { s₁ with heap := h', toks := tk }) E
      { s with heap := s.heap.push { cls := .type "dict", data := .dict #[] } }) :
    wpAny (model prog w) A (eval (.Dict keys values pos) env) Q E s := by
  rw [arm_eval_Dict, hshape, dictDisplay_pairs pairs h0 (by omega)]
  exact wpAny_bind (wpAny_standAt (wpAny_bind (wpAny_subDictH (knd := knd) (Q := fun d s' => wpAny (model prog w) A (pure (Value.ref d)) Q E s') hu hlen
    (wpAny_mono h (fun vs s₁ h₁ => by obtain ⟨ps, hc, hm, hq⟩ := h₁; exact ⟨ps, hc, hm, fun h' tk a b => wpAny_pure (hq h' tk a b)⟩) fun _ _ e => e))))

/-- {(): True} -/
def tDisp1 (X : Cx) : TE := fun _ H Q => ∀ p q, H p = none → H q = none → p ≠ q → Q (.ref p) (upd (upd H q (.tup [])) p (NO X.prog X.w p [([], q)]))
theorem pe_disp1 {pos p1 p2 : Pos} {k1 k2 : Nat} (hu : X.A.units + 9 < cLine) : PE X (.Dict [some (.Tuple [] k1 p1)] [.Constant (.bool true) k2 p2] pos) (tDisp1 X) := by
  refine ⟨fun pins s σ H Q I h => ?_⟩
  have hn := I.hok.fresh (Nat.le_refl s.heap.objs.size)
  have hsy : (s.heap.objs.size == sysModules) = false := beq_eq_false_iff_ne.mpr (Ne.symm (Nat.ne_of_lt I.big))
  have I1 := I.laid (a := s.heap.objs.size) (o := NO X.prog X.w s.heap.objs.size []) (h' := s.heap.push { cls := .type "dict", data := .dict #[] }) (t' := s.toks) (fun _ _ q => Heap.get?_push_of_some _ q) (Nat.le_refl _)
    (no_ok ⟨hsy, Nat.zero_le _, List.nodup_nil, _, #[], 0, Heap.get?_push_size _ rfl, ⟨rfl, rfl, rfl⟩, rfl, rfl⟩)
  refine dict_pairsH (knd := nestedKind X.prog X.w) (pairs := pairTrees [some (.Tuple [] k1 p1)] [.Constant (.bool true) k2 p2] X.env pos) (show X.A.units + 8 < cLine by omega) (zip_pairTrees _ _ X.env pos rfl rfl) (by intro z; exact nomatch z) (show 1 ≤ 15 by decide) ?_
  refine pairTrees_cons_walk (thn ((pe_tup (X := X) (x1 := k1) (pos := p1) pa_nil).run pins _ σ _ (fun v H2 => ∃ q, v = .ref q ∧ upd H s.heap.objs.size (NO X.prog X.w s.heap.objs.size []) q = none ∧ H2 = upd (upd H s.heap.objs.size (NO X.prog X.w s.heap.objs.size [])) q (.tup [])) I1 ⟨Nat.zero_le _, fun q hq => ⟨q, rfl, hq, rfl⟩⟩) ?_)
  rintro u s2 ⟨x, H2, I2, rx, q, ex, hq, eH⟩
  refine thn ((pe_bl (X := X) (b := true) (j := k2) (pos := p2)).run pins s2 σ H2 (fun v H3 => v = .bl true ∧ H3 = H2) I2 ⟨rfl, rfl⟩) ?_
  rintro w2 s3 ⟨y, H3, I3, ry, ey, eH3⟩
  refine pairTrees_nil_walk ?_
  subst ex ey eH3 eH
  obtain rfl : u = Value.ref q := rx
  obtain rfl : w2 = Value.bool true := ry
  have npq : s.heap.objs.size ≠ q := fun z => by
    rw [← z, upd_same] at hq
    cases hq
  have hq0 : H q = none := by rw [upd_ne npq.symm] at hq; exact hq
  have e3 : (upd (upd H s.heap.objs.size (NO X.prog X.w s.heap.objs.size [])) q (.tup [])) s.heap.objs.size = some (NO X.prog X.w s.heap.objs.size []) := by rw [upd_ne npq, upd_same]
  have pt : PatAt (upd (upd H s.heap.objs.size (NO X.prog X.w s.heap.objs.size [])) q (.tup [])) q [] := ⟨[], upd_same, .nil⟩
  refine ⟨[(nk [], q, .bool true)], ⟨rfl, rfl, pat_is I3.hok pt, trivial⟩, inv_ndd I3 e3 Keyed.nil, fun h' tk dd hs => ?_⟩
  obtain ⟨o, es, ep, g1, g2, g3, g4, g5, g6⟩ := dd
  refine ⟨.ref s.heap.objs.size, _, d_write (ob := NO X.prog X.w s.heap.objs.size [([], q)]) I3 (by rw [e3]; exact True.intro) hs ⟨o, g1⟩ (no_ok ⟨hsy, by show 1 ≤ sizeLine; decide, by simp, o, es, ep, g1, g2, g3, g4⟩), rfl, ?_⟩
  have eH : upd (upd (upd H s.heap.objs.size (NO X.prog X.w s.heap.objs.size [])) q (.tup [])) s.heap.objs.size (NO X.prog X.w s.heap.objs.size [([], q)]) = upd (upd H q (.tup [])) s.heap.objs.size (NO X.prog X.w s.heap.objs.size [([], q)]) := by
    funext b
    unfold upd
    by_cases e : b = s.heap.objs.size
    · rw [if_pos e, if_pos e]
    · rw [if_neg e, if_neg e, if_neg e]
  rw [eH]
  exact h _ q hn hq0 npq
end

/-! ### the keys of such a dict, walked while it is locked -/
theorem frzN {X : Cx} {pins : List (Addr × Obj)} {σ : L2.St} {H : Hp} {s : Shared} {d : Addr} {o : Obj} {xs : List (Pat × Addr)} (I : Inv X pins σ H s) (h : H d = some (.frz o (NO X.prog X.w d xs))) :
    (d == sysModules) = false ∧ s.heap.get? d = some o ∧ o.ExactDict ∧ ∃ (es : Array DictEntry) (ep : Nat), o.data = .dict es ep ∧ es.size = xs.length ∧
      ∀ (i : Nat) (R : Pat) (b : Addr), xs[i]? = some (R, b) → ∃ en : DictEntry, es[i]? = some en ∧ en.key = .ref b := by
  obtain ⟨hd, ⟨z, l, n, o', es, ep, ho, hx, hdt, he⟩, _⟩ := (show ObjOk X.prog X.w H s.heap d (.frz o (NO X.prog X.w d xs)) from I.hok d _ h)
  rw [hd] at ho
  cases ho
  refine ⟨z, hd, hx, es, ep, hdt, ?_, fun i R b e => ?_⟩
  · rw [size_of_entries he, List.length_map]
  · have q := entry_at he i
    rw [List.getElem?_map, e] at q
    exact ⟨_, q, rfl⟩
def Itn (X : Cx) (d : Addr) (o : Obj) (xs : List (Pat × Addr)) : It :=
  ⟨fun i H => H d = some (.frz o (NO X.prog X.w d xs)) ∧ i < xs.length, fun i H x H' => H' = H ∧ ∃ R b, xs[i]? = some (R, b) ∧ x = .ref b, fun i H => H d = some (.frz o (NO X.prog X.w d xs)) ∧ xs.length ≤ i⟩
theorem turn_keysN {X0 : Cx} {tg : Expr} {d : Addr} {o : Obj} {es : Array DictEntry} {ep : Nat} {xs : List (Pat × Addr)} (it : Addr) (hod : o.data = .dict es ep) : Turn X0.prog X0.w X0.K tg (Itn X0 d o xs) [it] it (fun i h => h.IsKeyIter it d i xs.length ep) where
  mem := by simp
  obj := fun i h st b hb => by
    have e : b = it := by simpa using hb
    subst e
    obtain ⟨oi, e, c, dd⟩ := st
    exact ⟨oi, e, fun v z => by rw [dd] at z; cases z⟩
  keep := fun i h h' st k => st.at fun oi e => k it (by simp) oi e
  item := by
    intro X hP hw hK hc i pins s σ H E I hf st hg
    obtain ⟨hd, hi⟩ := hg
    rw [← hP, ← hw] at hd
    rw [← hP, ← hw]
    obtain ⟨f0, f1, f2, f3, f4, f5⟩ := hf it (by simp)
    obtain ⟨hs, hgd, hx, es', ep', hdt, hsz, ent⟩ := frzN I hd
    obtain ⟨rfl, rfl⟩ := dict_ep hod hdt
    obtain ⟨⟨R, b⟩, hkv⟩ : ∃ p, xs[i]? = some p := ⟨xs[i], List.getElem?_eq_getElem hi⟩
    obtain ⟨en, hen, hkey⟩ := ent i R b hkv
    refine next_key_item st hgd hdt hsz hen fun h' st' sb => ?_
    have I1 : Inv X pins σ H { s with heap := h' } := I.turned (t' := s.toks) (fun b ob hb e => (sb.2 b hb).trans e) f0 f1 f3 f4 f5
    obtain ⟨oi, e, c, dd⟩ := id st'
    exact ⟨en.key, rfl, go_of (s := { s with heap := h' }) e c dd (by decide) ⟨.ref b, H, I1, hkey, ⟨rfl, R, b, hkv, rfl⟩, st', fun b hb => (hf b hb).1⟩⟩
  done := by
    intro X hP hw hK hc i pins s σ H E I hf st hg
    obtain ⟨hd, hi⟩ := hg
    rw [← hP, ← hw] at hd
    rw [← hP, ← hw]
    obtain ⟨f0, f1, f2, f3, f4, f5⟩ := hf it (by simp)
    obtain ⟨hs, hgd, hx, es', ep', hdt, hsz, ent⟩ := frzN I hd
    obtain ⟨rfl, rfl⟩ := dict_ep hod hdt
    exact next_key_end (I.ok.hd hc) st hgd hdt hsz hi fun h' eb => ⟨rfl, I.turned (t' := s.toks) (fun b ob hb e => eb b ob hb e) f0 f1 f3 f4 f5⟩
  self := fun A i s Q E st h => by
    refine wpAny_pyIter_slot st.typeIs F.slot_dict_keyiterator_iter (wpAny_call_entry F.slot_dict_keyiterator_iter st.typeIs F.entry_dict_keyiterator_iter ?_ (F.args_dict_keyiterator_iter_1 _))
    show wpAny _ _ (ret (.ref it)) _ _ s
    exact wpAny_pure ⟨_, rfl, "dict_keyiterator", _, st.typeIs, F.slot_dict_keyiterator_next.lookup, h⟩
def iKeysN (X : Cx) (td : TE) : TI := fun σ H R => td σ H fun x H1 => ∃ d o xs, x = .ref d ∧ H1 d = some (.frz o (NO X.prog X.w d xs)) ∧ R (Itn X d o xs) H1
theorem pi_keysN {X : Cx} {tg e : Expr} {td : TE} (he : PE X e td) : PI X tg e (iKeysN X td) := by
  refine ⟨fun pins s σ H R I h => ?_⟩
  refine thn (he.run pins s σ H _ I h) fun u s1 ⟨x, H1, I1, rx, d, o, xs, ex, hd, q⟩ => ?_
  subst ex
  obtain rfl : u = Value.ref d := rx
  obtain ⟨hs, hgd, hx, es, ep, hdt, hsz, ent⟩ := frzN I1 hd
  refine iter_keys hs hgd hx hdt (pi_one (tk := s1.toks) I1 _ (turn_keysN _ hdt) ⟨_, Heap.get?_push_size _ rfl, rfl, ?_⟩ q)
  rw [hsz] <;> rfl
/-- the turns, for the for loop -/
theorem for_keysN {X : Cx} {d : Addr} {o : Obj} {xs : List (Pat × Addr)} {g : TG} {tb : TS} {D : Ends} {σ : L2.St} {H : Hp} (Pv : Nat → L2.St → Hp → Prop) (h0 : Pv 0 σ H) (hl : ∀ i σ H, i ≤ xs.length → Pv i σ H → H d = some (.frz o (NO X.prog X.w d xs)))
    (hs : ∀ i R b σ H, xs[i]? = some (R, b) → Pv i σ H → g (.ref b) σ H fun σ2 H2 => tb { D with nx := Pv (i + 1), ct := Pv (i + 1), bk := D.nx } σ2 H2) (hd : ∀ σ H, Pv xs.length σ H → D.nx σ H) :
    ∃ W : Nat → Nat → L2.St → Hp → Prop, (∃ m, W 0 m σ H) ∧ ∀ i m σ H, W i m σ H →
      ((Itn X d o xs).stop i H ∧ D.nx σ H) ∨ ((Itn X d o xs).go i H ∧ ∃ N : L2.St → Hp → Prop, (∀ σ' H', N σ' H' → ∃ m', m' < m ∧ W (i + 1) m' σ' H') ∧ ∀ x H', (Itn X d o xs).yld i H x H' → g x σ H' fun σ2 H2 => tb { D with nx := N, ct := N, bk := D.nx } σ2 H2) := by
  refine ⟨fun i m σ H => m = xs.length - i ∧ i ≤ xs.length ∧ Pv i σ H, ⟨xs.length, by simp, Nat.zero_le _, h0⟩, ?_⟩
  rintro i m σ H ⟨rfl, hi, p⟩
  by_cases hlt : i < xs.length
  · refine .inr ⟨⟨hl i σ H hi p, hlt⟩, Pv (i + 1), fun σ' H' p' => ⟨xs.length - (i + 1), by omega, rfl, hlt, p'⟩, fun x H' y => ?_⟩
    obtain ⟨e, R, b, e1, e2⟩ := y
    subst e e2
    exact hs i R b σ _ e1 p
  · have e : i = xs.length := by omega
    subst e
    exact .inl ⟨⟨hl _ σ H hi p, Nat.le_refl _⟩, hd σ H p⟩

/-! ### sorted(d) of a dict whose keys are pairs of ints -/
theorem perm_back {α β : Type} {f : α → β} {l k : List β} (h : l.Perm k) : ∀ {m : List α}, k = m.map f → ∃ m' : List α, m'.Perm m ∧ l = m'.map f := by
  induction h with
  | nil =>
    intro m e
    cases m with
    | nil => exact ⟨[], List.Perm.refl _, rfl⟩
    | cons _ _ => simp at e
  | cons x _ ih =>
    intro m e
    cases m with
    | nil => simp at e
    | cons y m =>
      rw [List.map_cons] at e
      injection e with e1 e2
      obtain ⟨m', h1, h2⟩ := ih e2
      exact ⟨y :: m', h1.cons y, by rw [List.map_cons, e1, h2]⟩
  | swap x y l =>
    intro m e
    match m, e with
    | a :: b :: m, e =>
      rw [List.map_cons, List.map_cons] at e
      injection e with e1 e2
      injection e2 with e2 e3
      exact ⟨b :: a :: m, List.Perm.swap a b m, by rw [List.map_cons, List.map_cons, e1, e2, e3]⟩
    | [_], e => simp at e
    | [], e => simp at e
  | trans _ _ ih1 ih2 =>
    intro m e
    obtain ⟨m2, h1, h2⟩ := ih2 e
    obtain ⟨m1, h3, h4⟩ := ih1 h2
    exact ⟨m1, h3.trans h1, h4⟩
def ek (k : Int × Int) : List Key := [.inl k.1, .inl k.2]
def dk : List Key → Int × Int
  | [.inl i, .inl j] => (i, j)
  | _ => (0, 0)
theorem dk_ek (k : Int × Int) : dk (ek k) = k := rfl
theorem ek_inj {a b : Int × Int} (h : ek a = ek b) : a = b := by rw [← dk_ek a, h, dk_ek]
theorem vals_refs : ∀ L : List Addr, Vals (L.map V.ref) (L.map Value.ref)
  | [] => .nil
  | b :: L => .cons (show RelV (.ref b) (.ref b) from rfl) (vals_refs L)
def rSortedDT : List V → Hp → VK → Prop := fun vs H Q => ∃ (a : Addr) (kvs : List (List Key × V)) (ks : List (Int × Int)), vs = [.ref a] ∧ H a = some (.dT kvs) ∧ kvs.map (·.1) = ks.map ek ∧
  ∀ (L : List ((Int × Int) × Addr)) (p : Addr), (L.map (·.1)).Perm ks → (∀ q ∈ L, PairAt H q.2 q.1) → H p = none → Q (.ref p) (upd H p (.lst ((L.map (·.2)).map V.ref)))
theorem cr_sortedDT {X : Cx} (hcalm : X.calm = true) : CallR X (.builtin "sorted") rSortedDT := by
  intro pins s σ H vs us Q I r h
  obtain ⟨a, kvs, ks, ex, hd, hks, q⟩ := h
  subst ex
  obtain ⟨u, eu, rx⟩ := vals1 r
  subst eu
  obtain rfl : u = Value.ref a := rx
  obtain ⟨z, lo, xs, rel, dd⟩ := dt_of I.hok hd
  obtain ⟨o, es, ep, g1, g2, g3, g4, g5, g6⟩ := id dd
  have hl : kvs.length = xs.length := Paired.length rel
  have hsz : es.size = xs.length := size_of_entries g4
  have h16 : es.size ≤ sizeLine := by rw [hsz, ← hl]; exact z
  -- the keys with their addresses
  have kx : ∀ {l : List (List Key × V)} {m : List (List Key × Addr × Value)}, KT H l m → ∀ {js : List (Int × Int)}, l.map (·.1) = js.map ek → (m.map fun x => (dk x.1, x.2.1)).map (·.1) = js ∧ ∀ y ∈ m.map (fun x => (dk x.1, x.2.1)), PairAt H y.2 y.1 := by
    intro l m rel
    induction rel with
    | nil =>
      intro js e
      cases js with
      | nil => exact ⟨rfl, fun y hy => nomatch hy⟩
      | cons _ _ => simp at e
    | @cons p x ps qs hq t ih =>
      intro js e
      cases js with
      | nil => simp at e
      | cons j js =>
        rw [List.map_cons, List.map_cons] at e
        injection e with e1 e2
        obtain ⟨i1, i2⟩ := ih e2
        have ed : dk x.1 = j := by rw [← hq.1, e1, dk_ek]
        refine ⟨by rw [List.map_cons, List.map_cons, i1]; rw [ed], fun y hy => ?_⟩
        rw [List.map_cons] at hy
        rcases List.mem_cons.mp hy with ey | hy
        · rw [ey]
          show H x.2.1 = some (.tup [.int (dk x.1).1, .int (dk x.1).2])
          rw [ed, hq.2.1, e1]
          rfl
        · exact i2 y hy
  obtain ⟨ks1, ks2⟩ := kx rel hks
  generalize hL0 : xs.map (fun x => (dk x.1, x.2.1)) = L0 at ks1 ks2
  have hL0l : L0.length = xs.length := by rw [← hL0, List.length_map]
  refine Calls.call_function_entry PyProof.Rows.kind_sorted PyProof.Rows.plain_sorted PyProof.Rows.entry_sorted (PyProof.Rows.args_sorted1 _) ?_
  unfold Builtin.«sorted»
  refine wpAny_bind (m := checkCount "sorted" 1 1 _) (wpAny_pure ?_)
  refine wpAny_bind (PySem.W.kdu_collect (A := X.A.in1) (KdlSrc.rawDict (es := es) (ep := ep) lo) (I.ok.hd hcalm) ⟨o, g1, g2, g3⟩ h16 fun h' tk acc hk hacc => ?_)
  have hacc2 : acc.toList = (L0.map (·.2)).map Value.ref := by
    apply List.ext_getElem?
    intro i
    by_cases hi : i < acc.size
    · have hi2 : i < es.size := by rw [hacc.1] at hi; exact hi
      have e0 : acc.toList[i]? = some acc[i] := by rw [Array.getElem?_toList, Array.getElem?_eq_getElem hi]
      obtain ⟨hi3, ev⟩ := hacc.2 i acc[i] (Array.getElem?_eq_getElem hi)
      have e1 := entry_at g4 i
      have hxi : i < xs.length := by omega
      rw [List.getElem?_eq_getElem hxi, Array.getElem?_eq_getElem hi3] at e1
      have e2 : es[i] = entryOfKey (tupleKind (mixKind X.prog X.w)) xs[i] := Option.some.inj e1
      rw [e0, ev, e2, ← hL0, List.getElem?_map, List.getElem?_map, List.getElem?_map, List.getElem?_eq_getElem hxi]
      rfl
    · rw [List.getElem?_eq_none (by rw [Array.length_toList]; omega), List.getElem?_eq_none]
      rw [List.length_map, List.length_map, hL0l]
      rw [hacc.1] at hi
      omega
  have hal : acc.toList.length = xs.length := by rw [hacc2, List.length_map, List.length_map, hL0l]
  have I1 : Inv X pins σ H { s with heap := h', toks := tk } := I.kept hk
  refine wpAny_bind (wpAny_newList ?_ (by rw [hal, ← hl]; exact z))
  have hoL : (h'.push (seqObj "list" acc.toList.toArray 0)).get? h'.objs.size = some (seqObj "list" acc.toList.toArray 0) := Heap.get?_push_size _ rfl
  show wpAny _ _ _ _ _ { s with heap := h'.push (seqObj "list" acc.toList.toArray 0), toks := tk }
  refine wpAny_bind (wpAny_holding (wpAny_call_entry PyProof.Rows.slot_list_sort ⟨_, hoL, rfl⟩ PyProof.Rows.entry_list_sort
    (Srt.list_sort_any (s := { s with heap := h'.push (seqObj "list" acc.toList.toArray 0), toks := tk }) hoL (by rw [hal, ← hl]; exact z) (fun h2 => ?_) fun out hp => ⟨_, rfl, ?_⟩) (PyProof.Rows.args_list_sort _)))
  · refine Srt.pairs_sortable (by omega) (fun v hv => ?_) fun ob e => ?_
    · rw [hacc2] at hv
      obtain ⟨b, hb, rfl⟩ := List.mem_map.mp hv
      obtain ⟨y, hy, rfl⟩ := List.mem_map.mp hb
      obtain ⟨_, its2, r2, ot, ho, hc, n, hdt⟩ := (show ObjOk X.prog X.w H h' y.2 (.tup [.int y.1.1, .int y.1.2]) from I1.hok _ _ (ks2 y hy))
      obtain ⟨u1, u2, rfl, ri, rj⟩ := vals2 r2
      obtain ⟨t1, rfl⟩ := ri
      obtain ⟨t2, rfl⟩ := rj
      exact ⟨y.1.1, y.1.2, y.2, ot, t1, t2, n, rfl, Heap.get?_push_of_some _ ho, hc, hdt⟩
    · have e' : some ob = some (seqObj "list" acc.toList.toArray 0) := e.symm.trans hoL
      cases e'
      intro c
      exact absurd (Value.type.inj c) (by decide)
  · obtain ⟨e', he'⟩ := PyProof.Rows.sortedHeap_at (vs := acc.toList) (out := out.toArray) hoL
    rw [hacc2, List.map_map] at hp
    obtain ⟨L, hLp, hLo⟩ := perm_back hp rfl
    have hout : out = (L.map (·.2)).map Value.ref := by rw [hLo, List.map_map]
    have hLl : L.length = xs.length := by rw [hLp.length_eq, hL0l]
    refine wpAny_pure ⟨_, rfl, .ref h'.objs.size, upd H h'.objs.size (.lst ((L.map (·.2)).map V.ref)), I1.laid (t' := tk) (fun b u e => ?_) (Nat.le_refl _)
      (show ObjOk X.prog X.w _ _ _ (.lst ((L.map (·.2)).map V.ref)) from ⟨by rw [List.length_map, List.length_map, hLl, ← hl]; exact z, out, e', by rw [hout]; exact vals_refs _, he'⟩), rfl, q L _ ?_ (fun y hy => ks2 y (hLp.mem_iff.mp hy)) (I1.hok.fresh (Nat.le_refl _))⟩
    · have hb : b < h'.objs.size := Heap.lt_size e
      rw [PyProof.Rows.sortedHeap_old (Nat.ne_of_lt hb) (by rw [size_push']; exact Nat.lt_succ_of_lt hb)]
      exact Heap.get?_push_of_some _ e
    · rw [← ks1]
      exact hLp.map _
end D24
set_option Elab.async false
set_option linter.all false
set_option maxRecDepth 100000
set_option maxHeartbeats 4000000
/-! The text by places. -/
namespace D24
open PySem PySem.Spec PyProof.Rows L2
def topS (i : Nat) : Stmt := PySem.Challenge.pw_duskround_k24_whole_stairs_without_strid.main.body.getD i (.Pass ⟨0, 0, 0, 0⟩)
abbrev sTidy : Stmt := topS 1
abbrev sShows : Stmt := topS 2
abbrev sAdded : Stmt := topS 3
abbrev sMoved : Stmt := topS 4
abbrev sTimed : Stmt := topS 5
abbrev sInverse : Stmt := topS 7
abbrev sColumn : Stmt := topS 9
abbrev sFirst : Stmt := topS 10
abbrev sPlaces : Stmt := topS 11
abbrev sLength : Stmt := topS 12
abbrev sMis : Stmt := topS 13
abbrev sShifted : Stmt := topS 14
abbrev sMixed : Stmt := topS 15
abbrev sNormal : Stmt := topS 16
abbrev sLowered : Stmt := topS 17
abbrev sParts : Stmt := topS 18
abbrev sTaken : Stmt := topS 19
abbrev sRest : Stmt := topS 20
abbrev sPut : Stmt := topS 21
abbrev sSettle : Stmt := topS 22
abbrev sBuilt : Stmt := topS 23
abbrev sLBegin : Stmt := topS 25
abbrev sLTake : Stmt := topS 26
abbrev sLTidy : Stmt := topS 27
abbrev sLPat : Stmt := topS 28
abbrev sLDraw : Stmt := topS 29
abbrev sLSum : Stmt := topS 30
abbrev sLInt : Stmt := topS 31
abbrev sLIsPat : Stmt := topS 32
abbrev sLSums : Stmt := topS 33
abbrev sLaw : Stmt := topS 34

/-! ### heaps -/
theorem same_upd {H : Hp} {p : Addr} {o : HO} (h : H p = none) : Same H (upd H p o) := fun b x e => by
  rw [upd_ne (ne_of_none e h)]
  exact e
theorem same_put {H H1 : Hp} {p : Addr} {o : HO} (s : Same H H1) (h : H p = none) : Same H (upd H1 p o) := fun b x e => by
  rw [upd_ne (ne_of_none e h)]
  exact s _ _ e
/-- all but the thing at d is as it was -/
def But (d : Addr) (H H' : Hp) : Prop := ∀ b o, H b = some o → b ≠ d → H' b = some o
theorem But.same {d : Addr} {H H' : Hp} (s : Same H H') : But d H H' := fun b o e _ => s b o e
theorem But.trans {d : Addr} {H H1 H2 : Hp} (a : But d H H1) (b : But d H1 H2) : But d H H2 := fun c o e n => b c o (a c o e n) n
theorem But.upd {d : Addr} {H : Hp} {o : HO} : But d H (upd H d o) := fun b x e n => by rw [upd_ne n]; exact e
theorem But.of_new {d : Addr} {H0 H1 H2 : Hp} (s : Same H0 H1) (h : H0 d = none) (b : But d H1 H2) : Same H0 H2 := fun c o e => b c o (s c o e) (ne_of_none e h)
theorem Same.tk {H H' : Hp} (s : Same H H') : Tk H H' := Tk.same s
theorem But.tk {d : Addr} {H H' : Hp} (s : But d H H') (h : ∀ xs, H d ≠ some (.tup xs)) : Tk H H' := fun b xs e => s b _ e fun z => h xs (by rw [← z]; exact e)
theorem tk_upd {H : Hp} {p : Addr} {o : HO} (h : ∀ xs, H p ≠ some (.tup xs)) : Tk H (upd H p o) := fun b xs e => by
  rw [upd_ne fun z => h xs (by rw [← z]; exact e)]
  exact e
theorem PatAt.same {H H' : Hp} {a : Addr} {R : Pat} (s : Same H H') (h : PatAt H a R) : PatAt H' a R := h.keep (Tk.same s)
/-- a list of pairs -/
def PairsAt (H : Hp) (l : Addr) (L : List (Int × Int)) : Prop := ∃ as : List Addr, H l = some (.lst (as.map V.ref)) ∧ Paired (PairAt H) as L
theorem PairsAt.same {H H' : Hp} {l : Addr} {L : List (Int × Int)} (s : Same H H') (h : PairsAt H l L) : PairsAt H' l L := by
  obtain ⟨as, h1, h2⟩ := h
  exact ⟨as, s _ _ h1, Paired.mapP h2 fun _ _ z => z.keep (Tk.same s)⟩
theorem paired_len {α β : Type} {G : α → β → Prop} {l : List α} {m : List β} (h : Paired G l m) : l.length = m.length := Paired.length h
theorem paired_app {α β : Type} {G : α → β → Prop} : ∀ {l l' : List α} {m m' : List β}, Paired G l m → Paired G l' m' → Paired G (l ++ l') (m ++ m')
  | _, _, _, _, .nil, h => h
  | _, _, _, _, .cons r t, h => .cons r (paired_app t h)
/-- the i-th of a row of references -/
theorem ref_at {as : List Addr} {i : Nat} {x : V} (h : (as.map V.ref)[i]? = some x) : ∃ b, as[i]? = some b ∧ x = V.ref b := by
  rw [List.getElem?_map] at h
  cases e : as[i]? with
  | none => rw [e] at h; cases h
  | some b => rw [e] at h; exact ⟨b, rfl, (Option.some.inj h).symm⟩
theorem paired_at {α β : Type} {G : α → β → Prop} {l : List α} {m : List β} (h : Paired G l m) {i : Nat} {a : α} (e : l[i]? = some a) : ∃ b, m[i]? = some b ∧ G a b := paired_get h e
theorem take_snoc {α : Type} {l : List α} {i : Nat} {x : α} (h : l[i]? = some x) : l.take (i + 1) = l.take i ++ [x] := by
  rw [List.take_add_one, h]
  rfl
theorem le_line {n : Nat} (h : n ≤ 1000000) : n ≤ sizeLine := Nat.le_trans h (by decide)
theorem lt_line {n : Nat} (h : n ≤ 1000000) : n < sizeLine := Nat.lt_of_le_of_lt h (by decide)
theorem line_lt {n : Nat} (h : n < sizeLine) : n ≤ sizeLine := Nat.le_of_lt h
/-- the stack's room for keys that are patterns -/
theorem hu9 {A : Around} {k : Nat} (hr : Room k A) : A.units + 9 < cLine := Nat.lt_of_le_of_lt (Nat.add_le_add_left (by decide : 9 ≤ 64) _) hr.units
end D24
set_option Elab.async false
set_option linter.all false
set_option maxRecDepth 100000
set_option maxHeartbeats 4000000
/-! tidy, over places and over pairs. -/
namespace D24
open PySem PySem.Spec PyProof.Rows L2
/-! ### dicts by another key -/
section
variable {κ κ' : Type} [DecidableEq κ] [DecidableEq κ'] {e : κ → κ'}
def reK (e : κ → κ') (q : κ × V) : κ' × V := (e q.1, q.2)
theorem valV_re (he : ∀ a b, e a = e b → a = b) (k : κ) : ∀ D : List (κ × V), valV (D.map (reK e)) (e k) = valV D k
  | [] => rfl
  | q :: D => by
    have ih := valV_re he k D
    rw [List.map_cons]
    by_cases h : q.1 = k
    · rw [valV_pos h, valV_pos (p := reK e q) (by show e q.1 = e k; rw [h])]; rfl
    · rw [valV_neg h, valV_neg (p := reK e q) (fun z => h (he _ _ z))]; exact ih
theorem putK_re (he : ∀ a b, e a = e b → a = b) (k : κ) (v : V) (D : List (κ × V)) : putK (D.map (reK e)) (e k) v = (putK D k v).map (reK e) := by
  unfold putK
  rw [valV_any, valV_any, valV_re he]
  by_cases h : (valV D k).isSome = true
  · rw [if_pos h, if_pos h, List.map_map, List.map_map]
    refine List.map_congr_left fun q _ => ?_
    by_cases z : q.1 = k
    · simp [reK, z]
    · have z' : ¬ e q.1 = e k := fun y => z (he _ _ y)
      simp [reK, z, z']
  · rw [if_neg h, if_neg h, List.map_append]; rfl
theorem keys_putK (k : κ) (v : V) (D : List (κ × V)) : (putK D k v).map (·.1) = if k ∈ D.map (·.1) then D.map (·.1) else D.map (·.1) ++ [k] := by
  unfold putK
  rw [valV_any]
  by_cases h : k ∈ D.map (·.1)
  · have : (valV D k).isSome = true := by
      cases q : valV D k with
      | none => exact absurd h (valV_not q)
      | some _ => rfl
    rw [if_pos this, if_pos h, List.map_map]
    refine List.map_congr_left fun q _ => ?_
    by_cases z : q.1 = k <;> simp [z]
  · have : ¬ (valV D k).isSome = true := fun y => by
      obtain ⟨x, hx⟩ := Option.isSome_iff_exists.mp y
      exact h (valV_in hx)
    rw [if_neg this, if_neg h, List.map_append]; rfl
/-- the dict D holds the settings of the pairs L put together -/
structure DSum (p : Int) (L : List (κ × Int)) (D : List (κ × V)) : Prop where
  nd : (D.map (·.1)).Nodup
  sub : ∀ k ∈ D.map (·.1), k ∈ L.map (·.1)
  at_ : ∀ k, (valV D k).getD (.int 0) = .int (sumAt L k % p)
theorem DSum.nil {p : Int} : DSum p ([] : List (κ × Int)) [] := ⟨List.nodup_nil, (fun _ h => nomatch h), fun k => by
  show V.int 0 = V.int (0 % p)
  rw [Int.zero_emod]⟩
theorem DSum.put {p : Int} {L : List (κ × Int)} {D : List (κ × V)} (h : DSum p L D) (k : κ) (s : Int) : DSum p (L ++ [(k, s)]) (putK D k (.int ((sumAt L k % p + s) % p))) := by
  refine ⟨?_, fun j hj => ?_, fun j => ?_⟩
  · rw [keys_putK]
    split
    · exact h.nd
    · exact nd_snoc h.nd (by assumption)
  · rw [keys_putK] at hj
    rw [List.map_append, List.mem_append]
    split at hj
    · exact .inl (h.sub j hj)
    · rcases List.mem_append.mp hj with q | q
      · exact .inl (h.sub j q)
      · exact .inr (by simpa using q)
  · rw [valV_put, sumAt_append]
    by_cases e : j = k
    · rw [if_pos e, e]
      show V.int _ = V.int _
      have : sumAt [(k, s)] k = s := by
        show (if k = k then s else 0) + 0 = s
        rw [if_pos rfl]; omega
      rw [this, Int.emod_add_emod]
    · rw [if_neg e, h.at_]
      have : sumAt [(k, s)] j = 0 := sumAt_out fun q hq => by
        rw [List.mem_singleton.mp hq]; exact fun z => e z.symm
      rw [this, Int.add_zero]
theorem DSum.some {p : Int} {L : List (κ × Int)} {D : List (κ × V)} (h : DSum p L D) {k : κ} (hk : k ∈ D.map (·.1)) : valV D k = some (.int (sumAt L k % p)) := by
  have := h.at_ k
  cases q : valV D k with
  | none => exact absurd hk (valV_not q)
  | some v =>
    rw [q] at this
    exact congrArg Option.some this
theorem DSum.zero {p : Int} {L : List (κ × Int)} {D : List (κ × V)} (h : DSum p L D) {k : κ} (hk : ¬ k ∈ D.map (·.1)) : sumAt L k % p = 0 := by
  have := h.at_ k
  cases q : valV D k with
  | some v => exact absurd (valV_in q) hk
  | none =>
    rw [q] at this
    exact (V.int.inj this).symm
theorem DSum.len {p : Int} {L : List (κ × Int)} {D : List (κ × V)} (h : DSum p L D) : D.length ≤ L.length := by
  have := nodup_sub_length h.nd h.sub
  rwa [List.length_map, List.length_map] at this
end
theorem pick_val_sum {p : Int} {L : List (Int × Int)} {D : List (Int × V)} (h : DSum p L D) {ys : List Int} (hp : ys.Perm (D.map (·.1))) (x : Int) : val (pick p (sumAt L) ys) x = sumAt L x % p := by
  by_cases hx : x ∈ ys
  · exact pick_val hx
  · rw [h.zero fun z => hx (hp.mem_iff.mpr z)]
    exact val_out fun q hq z => hx (by rw [← z]; exact (pick_mem hq).1)
theorem inc_of {ys : List Int} (h1 : ys.Pairwise (· ≤ ·)) (h2 : ys.Nodup) : ys.Pairwise (· < ·) := by
  have := List.Pairwise.and h1 h2
  exact this.imp fun {a b} h => by omega

theorem sinl_inj : ∀ a b : Int, (Sum.inl a : Key) = Sum.inl b → a = b := fun _ _ e => Sum.inl.inj e
theorem map_re_keys {κ κ' : Type} (e : κ → κ') (D : List (κ × V)) : (D.map (reK e)).map (·.1) = (D.map (·.1)).map e := by
  rw [List.map_map, List.map_map]; rfl
theorem pairs_keep {H H' : Hp} {bs : List Addr} {R : List (Int × Int)} (t : Tk H H') (h : Paired (PairAt H) bs R) : Paired (PairAt H') bs R := Paired.mapP h fun _ _ z => z.keep t
section
variable {P : Program} {w : World} {K : PySem.W.Frag} {mg : Str → Option Value} {base : Heap}
/-- tidy(p, pairs): the pattern -/
def spTidy : Sp := fun vs H Q _ => ∃ (p : Int) (l : Addr) (L : List (Int × Int)), vs = [.int p, .ref l] ∧ 0 < p ∧ PairsAt H l L ∧ L.length < 64 ∧
  ∀ (H' : Hp) (a : Addr) (R : Pat), Same H H' → Canon p R → (∀ x, val R x = sumAt L x % p) → PatAt H' a R → Q (.ref a) H'
theorem scTidy : FnScope ["p", "pairs", "sums", "place", "setting"] ["p", "pairs"] (defScope sTidy) := ⟨rfl, rfl, rfl, by decide +kernel, rfl, by decide +kernel, by decide +kernel⟩
theorem ok_tidy {f : Addr} {fd : FuncData} {k : Nat} (F : Fun K "tidy" "tidy" sTidy f fd) (m1 : mg "sorted" = none) (m2 : mg "tuple" = none) : FnOk P w K mg base CX0 (k + 1) f fd ["p", "pairs"] spTidy := by
  refine F.ok scTidy (fun vs H Q E h => ?_) (fun cdv A outer s H vs Q E hr h => ?_)
  · obtain ⟨p, l, L, rfl, _⟩ := h
    rfl
  · obtain ⟨p, l, L, rfl, hp, ⟨as, hl, hL⟩, hlen, q⟩ := h
    have hu := hu_of hr
    refine ⟨_, pss_cons (ps_set (i := 2) scTidy.nd rfl (.inr rfl) pe_dnewK)
      (pss_cons (ps_for PassesOwn.never rfl (pi_list (pv 1)) (pg_tup rfl (pgs_cons (pg_name (i := 3) scTidy.nd rfl (.inl rfl)) (pgs_cons (pg_name (i := 4) scTidy.nd rfl (.inl rfl)) pgs_nil)))
        (pss_one (ps_dput hu (pv 2) (pv 3) (pe_op op_mod (pe_op op_add (pe_dget2 hu (pv 2) (pv 3) pe_int ⟨rfl, rfl, rfl, rfl⟩) (pv 4)) (pv 0)) rfl)))
      (pss_one (ps_ret (pe_callTy call_tuple_of (by rfl) m2 (by decide +kernel) (pa_cons
        (pe_lc (own := [("place", 3)]) (g := gName 3) rfl scTidy.nd (pi_list (pe_callB (call_sortedDI rfl) (by rfl) m1 (by decide +kernel) (pa_cons (pv 2) pa_nil))) (blkOk_by (N := ["p", "pairs", "sums", "place", "setting"]) (sc := defScope sTidy) (by decide +kernel))
          (fun _ _ _ _ _ => pg_name (i := 3) scTidy.nd rfl (.inl rfl)) (fun _ _ _ _ _ => pts_one (pt_cmpR op_ne (pe_dget hu (pv 2) (pv 3) (fun _ _ => rfl)) pe_int (nomark _)))
          (fun _ _ _ _ _ => pe_tup (pa_cons (pv 3) (pa_cons (pe_dget hu (pv 2) (pv 3) (fun _ _ => rfl)) pa_nil)))) pa_nil))))), ?_⟩
    intro d nd
    have ld : d ≠ l := fun z => by rw [z, hl] at nd; cases nd
    -- the loop
    refine ⟨.ref l, rfl, l, rfl, ⟨_, SqL.of (same_upd nd _ _ hl)⟩, for_list (K := K) (a := l) (xs := as.map V.ref) (fun i σ H1 => ∃ (D : List (Int × V)) (v3 v4 : Option V), σ = [some (.int p), some (.ref l), some (.ref d), v3, v4] ∧ Same H H1 ∧ H1 d = some (.dK (D.map (reK Sum.inl))) ∧ DSum p (L.take i) D)
      ⟨[], none, none, rfl, same_upd nd, upd_same, DSum.nil⟩ (fun i σ H1 _ ⟨_, _, _, _, s1, _⟩ => SqL.of (s1 _ _ hl)) ?_ ?_⟩
    · rintro i x σ H1 hi ⟨D, v3, v4, rfl, s1, hd, hD⟩
      obtain ⟨b, hb, rfl⟩ := ref_at hi
      obtain ⟨r, hr', pr⟩ := paired_at hL hb
      refine ⟨b, [.int r.1, .int r.2], rfl, SqT.of (s1 _ _ pr), rfl, _, _, rfl, _, _, rfl, rfl, ?_⟩
      have g1 : DGet H1 d (.int r.1) (valV (D.map (reK Sum.inl)) (Sum.inl r.1)) := DGet.k (k := Sum.inl r.1) hd
      have dl : D.length ≤ 64 := by
        have a1 := hD.len
        have a2 := List.length_take_le i L
        have : (L.take i).length ≤ L.length := by rw [List.length_take]; omega
        omega
      refine ⟨.ref d, rfl, d, rfl, .inl ⟨_, .inl hd⟩, .int r.1, rfl, _, g1, .int r.2, rfl, sumAt (L.take i) r.1 % p, r.2, by rw [valV_re sinl_inj]; exact hD.at_ _, rfl, .int p, rfl, _, _, rfl, rfl, hp,
        .ref d, rfl, .int r.1, rfl, d, _, rfl, DPut.k (k := Sum.inl r.1) hd (by rw [List.length_map]; exact lt_line (by omega)), ?_⟩
      refine ⟨_, some (.int r.1), some (.int r.2), rfl, same_put s1 nd, by rw [upd_same, putK_re sinl_inj], ?_⟩
      rw [take_snoc hr']
      exact hD.put r.1 r.2
    · rintro σ H1 ⟨D, v3, v4, rfl, s1, hd, hD⟩
      rw [List.length_map, paired_len hL, List.take_length] at hD
      have dl : D.length ≤ L.length := hD.len
      -- sorted(sums)
      refine ⟨.ref d, rfl, d, _, D.map (·.1), rfl, .inl hd, by rw [map_re_keys], by rw [List.length_map]; omega, fun ys pl pm pw npl => ?_⟩
      have yl : ys.length ≤ 64 := by
        have := pm.length_eq
        rw [List.length_map] at this
        omega
      have s2 : Same H1 (upd H1 pl (.lst (ys.map V.int))) := same_upd npl
      refine ⟨pl, rfl, ⟨_, SqL.of upd_same⟩, fun Dl nDl => lc_list (K := K) (a := pl) (xs := ys.map V.int) (fun i H3 => ∃ bs : List Addr, Same (upd H1 pl (.lst (ys.map V.int))) H3 ∧ H3 Dl = some (.lst (bs.map V.ref)) ∧ Paired (PairAt H3) bs (pick p (sumAt L) (ys.take i)))
        ⟨[], same_upd nDl, upd_same, .nil⟩ (fun i H3 _ ⟨_, s3, _⟩ => SqL.of (s3 _ _ upd_same)) ?_ ?_⟩
      · rintro i x H3 hx ⟨bs, s3, hD3, pr⟩
        obtain ⟨y, hy, rfl⟩ : ∃ y, ys[i]? = some y ∧ x = V.int y := by
          rw [List.getElem?_map] at hx
          cases e : ys[i]? with
          | none => rw [e] at hx; cases hx
          | some y => rw [e] at hx; exact ⟨y, rfl, (Option.some.inj hx).symm⟩
        have hd3 : H3 d = some (.dK (D.map (reK Sum.inl))) := s3 _ _ (s2 _ _ hd)
        have g1 : DGet H3 d (.int y) (some (.int (sumAt L y % p))) := by
          have := DGet.k (k := Sum.inl y) hd3
          rw [valV_re sinl_inj, hD.some (pm.mem_iff.mp (List.mem_of_getElem? hy))] at this
          exact this
        refine ⟨rfl, .ref d, rfl, .int y, rfl, d, _, rfl, g1, rfl, _, rfl, ite2 (fun c => ?_) (fun c => ?_)⟩
        · have c' : ¬ sumAt L y % p = 0 := fun z => by
            rw [z] at c
            simp at c
          refine ⟨.int y, rfl, .ref d, rfl, .int y, rfl, d, _, rfl, g1, le_line (by show 2 ≤ 1000000; decide), fun t nt => ?_⟩
          have nDt : Dl ≠ t := ne_of_none hD3 nt
          refine ⟨bs.map V.ref, by rw [upd_ne nDt]; exact hD3, ?_, bs ++ [t], ?_, by rw [upd_same, List.map_append]; rfl, ?_⟩
          · have a1 := paired_len pr
            have a2 := pick_length (p := p) (f := sumAt L) (ys.take i)
            rw [List.length_take] at a2
            rw [List.length_map]
            exact lt_line (by omega)
          · refine same_put ?_ nDl
            exact s3.trans (same_upd nt)
          · rw [take_snoc hy, pick_snoc, if_neg c']
            refine paired_app (pairs_keep (Tk.trans (Tk.same (same_upd nt)) (tk_upd fun xs z => ?_)) pr) (.cons ?_ .nil)
            · rw [upd_ne nDt, hD3] at z
              cases z
            · show (upd (upd H3 t _) Dl _) t = _
              rw [upd_ne nDt.symm, upd_same]
        · have c' : sumAt L y % p = 0 := by
            simpa using c
          refine ⟨bs, s3, hD3, ?_⟩
          rw [take_snoc hy, pick_snoc, if_pos c', List.append_nil]
          exact pr
      · rintro H3 ⟨bs, s3, hD3, pr⟩
        rw [List.length_map, List.take_length] at pr
        refine ⟨Dl, bs.map V.ref, rfl, .inl ⟨SqL.of hD3, fun a na => ?_⟩⟩
        refine q _ a (pick p (sumAt L) ys) ((s1.trans (s2.trans s3)).trans (same_upd na)) (pick_canon hp (inc_of pw (pm.nodup_iff.mpr hD.nd))) (pick_val_sum hD pm) ⟨bs, upd_same, pairs_keep (Tk.same (same_upd na)) pr⟩
end
end D24
set_option Elab.async false
set_option linter.all false
set_option maxRecDepth 100000
set_option maxHeartbeats 4000000
/-! tidy over makers (keys that are pairs), and the law's own tidy. -/
namespace D24
open PySem PySem.Spec PyProof.Rows L2
/-! ### makers -/
abbrev Mak := List ((Int × Int) × Int)
def KeyOk (k : Int × Int) : Prop := 0 ≤ k.1 ∧ k.1 < 16 ∧ k.2 = 0
def MPairAt (H : Hp) (b : Addr) (q : (Int × Int) × Int) : Prop := ∃ kt, H b = some (.tup [.ref kt, .int q.2]) ∧ PairAt H kt q.1
theorem MPairAt.keep {H H' : Hp} {b : Addr} {q : (Int × Int) × Int} (t : Tk H H') (h : MPairAt H b q) : MPairAt H' b q := by
  obtain ⟨kt, h1, h2⟩ := h
  exact ⟨kt, t _ _ h1, h2.keep t⟩
theorem mpairs_keep {H H' : Hp} {bs : List Addr} {M : Mak} (t : Tk H H') (h : Paired (MPairAt H) bs M) : Paired (MPairAt H') bs M := Paired.mapP h fun _ _ z => z.keep t
def MakAt (H : Hp) (a : Addr) (M : Mak) : Prop := ∃ as : List Addr, H a = some (.tup (as.map V.ref)) ∧ Paired (MPairAt H) as M
def MPairsAt (H : Hp) (l : Addr) (M : Mak) : Prop := ∃ as : List Addr, H l = some (.lst (as.map V.ref)) ∧ Paired (MPairAt H) as M
theorem MakAt.keep {H H' : Hp} {a : Addr} {M : Mak} (t : Tk H H') (h : MakAt H a M) : MakAt H' a M := by
  obtain ⟨as, h1, h2⟩ := h
  exact ⟨as, t _ _ h1, mpairs_keep t h2⟩
structure MkOK (M : Mak) : Prop where
  nd : (M.map (·.1)).Nodup
  ok : ∀ q ∈ M, KeyOk q.1
theorem MkOK.len {M : Mak} (h : MkOK M) : M.length ≤ 16 := by
  have := nodup_sub_length (m := (List.range 16).map fun (i : Nat) => ((i : Int), (0 : Int))) h.nd fun k hk => by
    obtain ⟨q, hq, rfl⟩ := List.mem_map.mp hk
    obtain ⟨h1, h2, h3⟩ := h.ok q hq
    exact List.mem_map.mpr ⟨q.1.1.toNat, List.mem_range.mpr (by omega), Prod.ext (by show ((q.1.1.toNat : Nat) : Int) = q.1.1; omega) h3.symm⟩
  rw [List.length_map, List.length_map, List.length_range] at this
  exact this
theorem MkOK.nil : MkOK [] := ⟨List.nodup_nil, fun _ h => nomatch h⟩
theorem ek_inj' : ∀ a b : Int × Int, ek a = ek b → a = b := fun _ _ e => ek_inj e

section
variable {P : Program} {w : World} {K : PySem.W.Frag} {mg : Str → Option Value} {base : Heap}
/-- tidy(p, pairs) of a maker's parts -/
def spTidyM : Sp := fun vs H Q _ => ∃ (p : Int) (l : Addr) (L : Mak), vs = [.int p, .ref l] ∧ 0 < p ∧ MPairsAt H l L ∧ (∀ q ∈ L, KeyOk q.1) ∧
  ∀ (H' : Hp) (a : Addr) (M : Mak), Same H H' → MkOK M → MakAt H' a M → Q (.ref a) H'
theorem DSum.len16 {p : Int} {L : Mak} {D : List ((Int × Int) × V)} (h : DSum p L D) (hk : ∀ q ∈ L, KeyOk q.1) : D.length ≤ 16 := by
  have := MkOK.len (M := D.map fun q => (q.1, 0)) ⟨by rw [List.map_map]; exact h.nd, fun q hq => by
    obtain ⟨r, hr, rfl⟩ := List.mem_map.mp hq
    obtain ⟨z, hz, e⟩ := List.mem_map.mp (h.sub r.1 (List.mem_map.mpr ⟨r, hr, rfl⟩))
    show KeyOk r.1
    rw [← e]; exact hk z hz⟩
  rwa [List.length_map] at this
theorem ok_tidyM {f : Addr} {fd : FuncData} {k : Nat} (F : Fun K "tidy" "tidy" sTidy f fd) (m1 : mg "sorted" = none) (m2 : mg "tuple" = none) : FnOk P w K mg base CX0 (k + 1) f fd ["p", "pairs"] spTidyM := by
  refine F.ok scTidy (fun vs H Q E h => ?_) (fun cdv A outer s H vs Q E hr h => ?_)
  · obtain ⟨p, l, L, rfl, _⟩ := h
    rfl
  · obtain ⟨p, l, L, rfl, hp, ⟨as, hl, hL⟩, hkeys, q⟩ := h
    have hu := hu_of hr
    refine ⟨_, pss_cons (ps_set (i := 2) scTidy.nd rfl (.inr rfl) pe_dnewT)
      (pss_cons (ps_for PassesOwn.never rfl (pi_list (pv 1)) (pg_tup rfl (pgs_cons (pg_name (i := 3) scTidy.nd rfl (.inl rfl)) (pgs_cons (pg_name (i := 4) scTidy.nd rfl (.inl rfl)) pgs_nil)))
        (pss_one (ps_dput hu (pv 2) (pv 3) (pe_op op_mod (pe_op op_add (pe_dget2 hu (pv 2) (pv 3) pe_int ⟨rfl, rfl, rfl, rfl⟩) (pv 4)) (pv 0)) rfl)))
      (pss_one (ps_ret (pe_callTy call_tuple_of (by rfl) m2 (by decide +kernel) (pa_cons
        (pe_lc (own := [("place", 3)]) (g := gName 3) rfl scTidy.nd (pi_list (pe_callB (cr_sortedDT rfl) (by rfl) m1 (by decide +kernel) (pa_cons (pv 2) pa_nil))) (blkOk_by (N := ["p", "pairs", "sums", "place", "setting"]) (sc := defScope sTidy) (by decide +kernel))
          (fun _ _ _ _ _ => pg_name (i := 3) scTidy.nd rfl (.inl rfl)) (fun _ _ _ _ _ => pts_one (pt_cmpR op_ne (pe_dget hu (pv 2) (pv 3) (fun _ _ => rfl)) pe_int (nomark _)))
          (fun _ _ _ _ _ => pe_tup (pa_cons (pv 3) (pa_cons (pe_dget hu (pv 2) (pv 3) (fun _ _ => rfl)) pa_nil)))) pa_nil))))), ?_⟩
    intro d nd
    have ld : d ≠ l := fun z => by rw [z, hl] at nd; cases nd
    -- the loop
    refine ⟨.ref l, rfl, l, rfl, ⟨_, SqL.of (same_upd nd _ _ hl)⟩, for_list (K := K) (a := l) (xs := as.map V.ref) (fun i σ H1 => ∃ (D : List ((Int × Int) × V)) (v3 v4 : Option V), σ = [some (.int p), some (.ref l), some (.ref d), v3, v4] ∧ Same H H1 ∧ H1 d = some (.dT (D.map (reK ek))) ∧ DSum p (L.take i) D)
      ⟨[], none, none, rfl, same_upd nd, upd_same, DSum.nil⟩ (fun i σ H1 _ ⟨_, _, _, _, s1, _⟩ => SqL.of (s1 _ _ hl)) ?_ ?_⟩
    · rintro i x σ H1 hi ⟨D, v3, v4, rfl, s1, hd, hD⟩
      obtain ⟨b, hb, rfl⟩ := ref_at hi
      obtain ⟨r, hr', kt, pr, pk⟩ := paired_at hL hb
      have pk1 : H1 kt = some (.tup ((ek r.1).map kV)) := s1 _ _ pk
      refine ⟨b, [.ref kt, .int r.2], rfl, SqT.of (s1 _ _ pr), rfl, _, _, rfl, _, _, rfl, rfl, ?_⟩
      have g1 : DGet H1 d (.ref kt) (valV (D.map (reK ek)) (ek r.1)) := DGet.t hd pk1
      have dl : D.length ≤ 16 := hD.len16 fun q hq => hkeys q (List.mem_of_mem_take hq)
      refine ⟨.ref d, rfl, d, rfl, .inr ⟨_, .inl hd⟩, .ref kt, rfl, _, g1, .int r.2, rfl, sumAt (L.take i) r.1 % p, r.2, by rw [valV_re ek_inj']; exact hD.at_ _, rfl, .int p, rfl, _, _, rfl, rfl, hp,
        .ref d, rfl, .ref kt, rfl, d, _, rfl, DPut.t hd pk1 (by rw [List.length_map]; exact lt_line (by omega)), ?_⟩
      refine ⟨_, some (.ref kt), some (.int r.2), rfl, same_put s1 nd, by rw [upd_same, putK_re ek_inj'], ?_⟩
      rw [take_snoc hr']
      exact hD.put r.1 r.2
    · rintro σ H1 ⟨D, v3, v4, rfl, s1, hd, hD⟩
      rw [List.length_map, paired_len hL, List.take_length] at hD
      have dl : D.length ≤ 16 := hD.len16 hkeys
      -- sorted(sums)
      refine ⟨.ref d, rfl, d, _, D.map (·.1), rfl, hd, by rw [map_re_keys], fun Lk pl pm pk npl => ?_⟩
      have yl : Lk.length ≤ 16 := by
        have := pm.length_eq
        rw [List.length_map, List.length_map] at this
        omega
      have s2 : Same H1 (upd H1 pl (.lst ((Lk.map (·.2)).map V.ref))) := same_upd npl
      refine ⟨pl, rfl, ⟨_, SqL.of upd_same⟩, fun Dl nDl => lc_list (K := K) (a := pl) (xs := (Lk.map (·.2)).map V.ref) (fun i H3 => ∃ bs : List Addr, Same (upd H1 pl (.lst ((Lk.map (·.2)).map V.ref))) H3 ∧ H3 Dl = some (.lst (bs.map V.ref)) ∧ Paired (MPairAt H3) bs (pick p (sumAt L) ((Lk.map (·.1)).take i)))
        ⟨[], same_upd nDl, upd_same, .nil⟩ (fun i H3 _ ⟨_, s3, _⟩ => SqL.of (s3 _ _ upd_same)) ?_ ?_⟩
      · rintro i x H3 hx ⟨bs, s3, hD3, pr⟩
        obtain ⟨kt, hkt, rfl⟩ := ref_at hx
        obtain ⟨y, hy, rfl⟩ : ∃ y, Lk[i]? = some y ∧ y.2 = kt := by
          rw [List.getElem?_map] at hkt
          cases e : Lk[i]? with
          | none => rw [e] at hkt; cases hkt
          | some y => rw [e] at hkt; exact ⟨y, rfl, Option.some.inj hkt⟩
        have hyk : (Lk.map (·.1))[i]? = some y.1 := by rw [List.getElem?_map, hy]; rfl
        have hd3 : H3 d = some (.dT (D.map (reK ek))) := s3 _ _ (s2 _ _ hd)
        have pk3 : H3 y.2 = some (.tup ((ek y.1).map kV)) := s3 _ _ (s2 _ _ (pk y (List.mem_of_getElem? hy)))
        have g1 : DGet H3 d (.ref y.2) (some (.int (sumAt L y.1 % p))) := by
          have := DGet.t hd3 pk3
          rw [valV_re ek_inj', hD.some (pm.mem_iff.mp (List.mem_of_getElem? hyk))] at this
          exact this
        refine ⟨rfl, .ref d, rfl, .ref y.2, rfl, d, _, rfl, g1, rfl, _, rfl, ite2 (fun c => ?_) (fun c => ?_)⟩
        · have c' : ¬ sumAt L y.1 % p = 0 := fun z => by
            rw [z] at c
            simp at c
          refine ⟨.ref y.2, rfl, .ref d, rfl, .ref y.2, rfl, d, _, rfl, g1, le_line (by show 2 ≤ 1000000; decide), fun t nt => ?_⟩
          have nDt : Dl ≠ t := ne_of_none hD3 nt
          refine ⟨bs.map V.ref, by rw [upd_ne nDt]; exact hD3, ?_, bs ++ [t], ?_, by rw [upd_same, List.map_append]; rfl, ?_⟩
          · have a1 := paired_len pr
            have a2 := pick_length (p := p) (f := sumAt L) ((Lk.map (·.1)).take i)
            rw [List.length_take, List.length_map] at a2
            rw [List.length_map]
            exact lt_line (by omega)
          · refine same_put ?_ nDl
            exact s3.trans (same_upd nt)
          · rw [take_snoc hyk, pick_snoc, if_neg c']
            have tk : Tk H3 (upd (upd H3 t (.tup [.ref y.2, .int (sumAt L y.1 % p)])) Dl (.lst (bs.map V.ref ++ [V.ref t]))) := Tk.trans (Tk.same (same_upd nt)) (tk_upd fun xs z => by
              rw [upd_ne nDt, hD3] at z
              cases z)
            refine paired_app (mpairs_keep tk pr) (.cons ⟨y.2, ?_, tk _ _ pk3⟩ .nil)
            show (upd (upd H3 t _) Dl _) t = _
            rw [upd_ne nDt.symm, upd_same]
        · have c' : sumAt L y.1 % p = 0 := by
            simpa using c
          refine ⟨bs, s3, hD3, ?_⟩
          rw [take_snoc hyk, pick_snoc, if_pos c', List.append_nil]
          exact pr
      · rintro H3 ⟨bs, s3, hD3, pr⟩
        rw [show ((Lk.map (·.2)).map V.ref).length = (Lk.map (·.1)).length by rw [List.length_map, List.length_map, List.length_map], List.take_length] at pr
        refine ⟨Dl, bs.map V.ref, rfl, .inl ⟨SqL.of hD3, fun a na => ?_⟩⟩
        refine q _ a (pick p (sumAt L) (Lk.map (·.1))) ((s1.trans (s2.trans s3)).trans (same_upd na)) ⟨pick_nodup (pm.nodup_iff.mpr hD.nd), fun z hz => ?_⟩ ⟨bs, upd_same, mpairs_keep (Tk.same (same_upd na)) pr⟩
        have h1 := hD.sub _ (pm.mem_iff.mp (pick_mem hz).1)
        obtain ⟨r, hr', e⟩ := List.mem_map.mp h1
        rw [← e]
        exact hkeys r hr'

/-! ### the law's tidy -/
theorem scLTidy : FnScope ["_law_p", "_law_pairs", "_law_sums_here", "_law_place", "_law_setting"] ["_law_p", "_law_pairs"] (defScope sLTidy) := ⟨rfl, rfl, rfl, by decide +kernel, rfl, by decide +kernel, by decide +kernel⟩
theorem ok_ltidy {f : Addr} {fd : FuncData} {k : Nat} (F : Fun K "_law_tidy" "_law_tidy" sLTidy f fd) (m1 : mg "sorted" = none) (m2 : mg "tuple" = none) : FnOk P w K mg base CX0 (k + 1) f fd ["_law_p", "_law_pairs"] spTidy := by
  refine F.ok scLTidy (fun vs H Q E h => ?_) (fun cdv A outer s H vs Q E hr h => ?_)
  · obtain ⟨p, l, L, rfl, _⟩ := h
    rfl
  · obtain ⟨p, l, L, rfl, hp, ⟨as, hl, hL⟩, hlen, q⟩ := h
    have hu := hu_of hr
    refine ⟨_, pss_cons (ps_set (i := 2) scLTidy.nd rfl (.inr rfl) pe_dnewK)
      (pss_cons (ps_for PassesOwn.never rfl (pi_list (pv 1)) (pg_tup rfl (pgs_cons (pg_name (i := 3) scLTidy.nd rfl (.inl rfl)) (pgs_cons (pg_name (i := 4) scLTidy.nd rfl (.inl rfl)) pgs_nil)))
        (pss_one (ps_dput hu (pv 2) (pv 3) (pe_op op_mod (pe_op op_add (pe_dget2 hu (pv 2) (pv 3) pe_int ⟨rfl, rfl, rfl, rfl⟩) (pv 4)) (pv 0)) rfl)))
      (pss_one (ps_ret (pe_callTy call_tuple_of (by rfl) m2 (by decide +kernel) (pa_cons
        (pe_lc (own := [("_law_place", 3)]) (g := gName 3) rfl scLTidy.nd (pi_list (pe_callB (call_sortedDI rfl) (by rfl) m1 (by decide +kernel) (pa_cons (pv 2) pa_nil))) (blkOk_by (N := ["_law_p", "_law_pairs", "_law_sums_here", "_law_place", "_law_setting"]) (sc := defScope sLTidy) (by decide +kernel))
          (fun _ _ _ _ _ => pg_name (i := 3) scLTidy.nd rfl (.inl rfl)) (fun _ _ _ _ _ => pts_one (pt_cmpR op_gt (pe_dget hu (pv 2) (pv 3) (fun _ _ => rfl)) pe_int (nomark _)))
          (fun _ _ _ _ _ => pe_tup (pa_cons (pv 3) (pa_cons (pe_dget hu (pv 2) (pv 3) (fun _ _ => rfl)) pa_nil)))) pa_nil))))), ?_⟩
    intro d nd
    have ld : d ≠ l := fun z => by rw [z, hl] at nd; cases nd
    -- the loop
    refine ⟨.ref l, rfl, l, rfl, ⟨_, SqL.of (same_upd nd _ _ hl)⟩, for_list (K := K) (a := l) (xs := as.map V.ref) (fun i σ H1 => ∃ (D : List (Int × V)) (v3 v4 : Option V), σ = [some (.int p), some (.ref l), some (.ref d), v3, v4] ∧ Same H H1 ∧ H1 d = some (.dK (D.map (reK Sum.inl))) ∧ DSum p (L.take i) D)
      ⟨[], none, none, rfl, same_upd nd, upd_same, DSum.nil⟩ (fun i σ H1 _ ⟨_, _, _, _, s1, _⟩ => SqL.of (s1 _ _ hl)) ?_ ?_⟩
    · rintro i x σ H1 hi ⟨D, v3, v4, rfl, s1, hd, hD⟩
      obtain ⟨b, hb, rfl⟩ := ref_at hi
      obtain ⟨r, hr', pr⟩ := paired_at hL hb
      refine ⟨b, [.int r.1, .int r.2], rfl, SqT.of (s1 _ _ pr), rfl, _, _, rfl, _, _, rfl, rfl, ?_⟩
      have g1 : DGet H1 d (.int r.1) (valV (D.map (reK Sum.inl)) (Sum.inl r.1)) := DGet.k (k := Sum.inl r.1) hd
      have dl : D.length ≤ 64 := by
        have a1 := hD.len
        have : (L.take i).length ≤ L.length := by rw [List.length_take]; omega
        omega
      refine ⟨.ref d, rfl, d, rfl, .inl ⟨_, .inl hd⟩, .int r.1, rfl, _, g1, .int r.2, rfl, sumAt (L.take i) r.1 % p, r.2, by rw [valV_re sinl_inj]; exact hD.at_ _, rfl, .int p, rfl, _, _, rfl, rfl, hp,
        .ref d, rfl, .int r.1, rfl, d, _, rfl, DPut.k (k := Sum.inl r.1) hd (by rw [List.length_map]; exact lt_line (by omega)), ?_⟩
      refine ⟨_, some (.int r.1), some (.int r.2), rfl, same_put s1 nd, by rw [upd_same, putK_re sinl_inj], ?_⟩
      rw [take_snoc hr']
      exact hD.put r.1 r.2
    · rintro σ H1 ⟨D, v3, v4, rfl, s1, hd, hD⟩
      rw [List.length_map, paired_len hL, List.take_length] at hD
      have dl : D.length ≤ L.length := hD.len
      -- sorted
      refine ⟨.ref d, rfl, d, _, D.map (·.1), rfl, .inl hd, by rw [map_re_keys], by rw [List.length_map]; omega, fun ys pl pm pw npl => ?_⟩
      have yl : ys.length ≤ 64 := by
        have := pm.length_eq
        rw [List.length_map] at this
        omega
      have s2 : Same H1 (upd H1 pl (.lst (ys.map V.int))) := same_upd npl
      refine ⟨pl, rfl, ⟨_, SqL.of upd_same⟩, fun Dl nDl => lc_list (K := K) (a := pl) (xs := ys.map V.int) (fun i H3 => ∃ bs : List Addr, Same (upd H1 pl (.lst (ys.map V.int))) H3 ∧ H3 Dl = some (.lst (bs.map V.ref)) ∧ Paired (PairAt H3) bs (pick p (sumAt L) (ys.take i)))
        ⟨[], same_upd nDl, upd_same, .nil⟩ (fun i H3 _ ⟨_, s3, _⟩ => SqL.of (s3 _ _ upd_same)) ?_ ?_⟩
      · rintro i x H3 hx ⟨bs, s3, hD3, pr⟩
        obtain ⟨y, hy, rfl⟩ : ∃ y, ys[i]? = some y ∧ x = V.int y := by
          rw [List.getElem?_map] at hx
          cases e : ys[i]? with
          | none => rw [e] at hx; cases hx
          | some y => rw [e] at hx; exact ⟨y, rfl, (Option.some.inj hx).symm⟩
        have hd3 : H3 d = some (.dK (D.map (reK Sum.inl))) := s3 _ _ (s2 _ _ hd)
        have g1 : DGet H3 d (.int y) (some (.int (sumAt L y % p))) := by
          have := DGet.k (k := Sum.inl y) hd3
          rw [valV_re sinl_inj, hD.some (pm.mem_iff.mp (List.mem_of_getElem? hy))] at this
          exact this
        have hge := Int.emod_nonneg (sumAt L y) (show p ≠ 0 by omega)
        refine ⟨rfl, .ref d, rfl, .int y, rfl, d, _, rfl, g1, _, _, rfl, rfl, _, rfl, ite2 (fun c => ?_) (fun c => ?_)⟩
        · have c' : ¬ sumAt L y % p = 0 := by
            have := of_decide_eq_true c
            omega
          refine ⟨.int y, rfl, .ref d, rfl, .int y, rfl, d, _, rfl, g1, le_line (by show 2 ≤ 1000000; decide), fun t nt => ?_⟩
          have nDt : Dl ≠ t := ne_of_none hD3 nt
          refine ⟨bs.map V.ref, by rw [upd_ne nDt]; exact hD3, ?_, bs ++ [t], ?_, by rw [upd_same, List.map_append]; rfl, ?_⟩
          · have a1 := paired_len pr
            have a2 := pick_length (p := p) (f := sumAt L) (ys.take i)
            rw [List.length_take] at a2
            rw [List.length_map]
            exact lt_line (by omega)
          · refine same_put ?_ nDl
            exact s3.trans (same_upd nt)
          · rw [take_snoc hy, pick_snoc, if_neg c']
            refine paired_app (pairs_keep (Tk.trans (Tk.same (same_upd nt)) (tk_upd fun xs z => ?_)) pr) (.cons ?_ .nil)
            · rw [upd_ne nDt, hD3] at z
              cases z
            · show (upd (upd H3 t _) Dl _) t = _
              rw [upd_ne nDt.symm, upd_same]
        · have c' : sumAt L y % p = 0 := by
            have : ¬ 0 < sumAt L y % p := fun z => c (decide_eq_true z)
            omega
          refine ⟨bs, s3, hD3, ?_⟩
          rw [take_snoc hy, pick_snoc, if_pos c', List.append_nil]
          exact pr
      · rintro H3 ⟨bs, s3, hD3, pr⟩
        rw [List.length_map, List.take_length] at pr
        refine ⟨Dl, bs.map V.ref, rfl, .inl ⟨SqL.of hD3, fun a na => ?_⟩⟩
        refine q _ a (pick p (sumAt L) ys) ((s1.trans (s2.trans s3)).trans (same_upd na)) (pick_canon hp (inc_of pw (pm.nodup_iff.mpr hD.nd))) (pick_val_sum hD pm) ⟨bs, upd_same, pairs_keep (Tk.same (same_upd na)) pr⟩
end
end D24
set_option Elab.async false
set_option linter.all false
set_option maxRecDepth 100000
set_option maxHeartbeats 4000000
/-! The small defs. -/
namespace D24
open PySem PySem.Spec PyProof.Rows L2
structure Good (p : Int) (R : Pat) : Prop where
  can : Canon p R
  bd : Bd R
theorem Good.len {p : Int} {R : Pat} (h : Good p R) : R.length ≤ 13 := canon_len h.can h.bd
theorem Good.nil {p : Int} : Good p [] := ⟨Canon.nil, Bd.nil⟩
theorem good_of {p : Int} {R : Pat} (hc : Canon p R) (h : ∀ x, val R x ≠ 0 → -6 ≤ x ∧ x ≤ 6) : Good p R := ⟨hc, bd_of hc h⟩
theorem sumAt_times {κ : Type} [DecidableEq κ] (n : Int) : ∀ (L : List (κ × Int)) (x : κ), sumAt (L.map fun q => (q.1, q.2 * n)) x = sumAt L x * n
  | [], x => by show (0 : Int) = 0 * n; omega
  | q :: L, x => by
    show (if q.1 = x then q.2 * n else 0) + sumAt (L.map fun q => (q.1, q.2 * n)) x = ((if q.1 = x then q.2 else 0) + sumAt L x) * n
    rw [sumAt_times n L x, Int.add_mul]
    by_cases e : q.1 = x
    · rw [if_pos e, if_pos e]
    · rw [if_neg e, if_neg e]; omega
theorem val_drop : ∀ {R : Pat} {i : Nat} {q : Int × Int} (x : Int), R[i]? = some q → val (R.drop i) x = if q.1 = x then q.2 else val (R.drop (i + 1)) x
  | [], i, q, x, h => by simp at h
  | z :: R, 0, q, x, h => by
    have e : z = q := by simpa using h
    subst e
    rfl
  | z :: R, i + 1, q, x, h => by
    rw [List.drop_succ_cons, List.drop_succ_cons]
    exact val_drop x (by simpa using h)
theorem canon_filter {p : Int} : ∀ {R : Pat}, Canon p R → ∀ at_ : Int, (R.map (·.1)).filter (fun x => decide (x = at_)) = if val R at_ = 0 then [] else [at_]
  | [], _, _ => rfl
  | q :: R, h, at_ => by
    rw [List.map_cons, List.filter_cons]
    have ih := canon_filter h.tail at_
    have hp := h.pos q List.mem_cons_self
    by_cases e : q.1 = at_
    · have : val R at_ = 0 := val_out fun z hz => by have := h.head z hz; omega
      rw [if_pos (decide_eq_true e), ih, if_pos this]
      have e2 : val (q :: R) at_ = q.2 := by
        show (if q.1 = at_ then q.2 else val R at_) = q.2
        rw [if_pos e]
      rw [e2, if_neg (by omega), e]
    · rw [if_neg (by simpa using e), ih]
      have e2 : val (q :: R) at_ = val R at_ := by
        show (if q.1 = at_ then q.2 else val R at_) = val R at_
        rw [if_neg e]
      rw [e2]
/-- the lowest place -/
def Low (R : Pat) (at_ : Int) : Prop := ∃ s r, R = (at_, s) :: r ∧ ∀ z ∈ r, at_ < z.1
theorem Low.of {p : Int} {R : Pat} (h : Canon p R) (h0 : R ≠ []) : ∃ at_, Low R at_ := by
  cases R with
  | nil => exact absurd rfl h0
  | cons q r => exact ⟨q.1, q.2, r, rfl, h.head⟩
theorem Low.val {p : Int} {R : Pat} {at_ : Int} (h : Low R at_) (hc : Canon p R) : 0 < val R at_ ∧ val R at_ < p ∧ ∀ x, x < at_ → val R x = 0 := by
  obtain ⟨s, r, rfl, hl⟩ := h
  have e := canon_val hc (at_, s) List.mem_cons_self
  have hp := hc.pos (at_, s) List.mem_cons_self
  simp only at e hp
  refine ⟨by rw [e]; exact hp.1, by rw [e]; exact hp.2, fun x hx => val_out fun q hq => ?_⟩
  rcases List.mem_cons.mp hq with z | hq
  · rw [z]; show at_ ≠ x; omega
  · have := hl q hq; omega
theorem Lead.lowp {p : Int} {R : Pat} {at_ : Int} (h : Lead p at_ R) : Low R at_ := by
  obtain ⟨b, hb⟩ := Low.of h.can (fun z => by have := h.one; rw [z] at this; exact absurd (show (0 : Int) = 1 from this) (by decide))
  have hv := hb.val h.can
  have e : b = at_ := by
    rcases Int.lt_trichotomy b at_ with c | c | c
    · have := h.low b c; omega
    · exact c
    · have := hv.2.2 at_ c
      have := h.one; omega
  rw [← e]; exact hb
/-- p is 2, 3 or 5 -/
def Pr (p : Int) : Prop := p = 2 ∨ p = 3 ∨ p = 5
theorem Pr.pos {p : Int} (h : Pr p) : 0 < p := by
  rcases h with rfl | rfl | rfl <;> decide
theorem Pr.inv {p s : Int} (h : Pr p) (h1 : 0 < s) (h2 : s < p) : ∃ j : Nat, (j : Int) < p - 1 ∧ (1 + (j : Int)) * s % p = 1 := by
  rcases h with rfl | rfl | rfl
  · have : s = 1 := by omega
    subst this
    exact ⟨0, by decide, by decide⟩
  · have : s = 1 ∨ s = 2 := by omega
    rcases this with rfl | rfl
    · exact ⟨0, by decide, by decide⟩
    · exact ⟨1, by decide, by decide⟩
  · have : s = 1 ∨ s = 2 ∨ s = 3 ∨ s = 4 := by omega
    rcases this with rfl | rfl | rfl | rfl
    · exact ⟨0, by decide, by decide⟩
    · exact ⟨2, by decide, by decide⟩
    · exact ⟨1, by decide, by decide⟩
    · exact ⟨3, by decide, by decide⟩
theorem lt64 {z : Int} (h1 : -1000 ≤ z) (h2 : z ≤ 1000) : -(2 ^ 64) < z ∧ z < 2 ^ 64 := by
  constructor <;> omega

section
variable {P : Program} {w : World} {K : PySem.W.Frag} {mg : Str → Option Value} {base : Heap}
/-! ### shows -/
def spShows : Sp := fun vs H Q _ => ∃ (a : Addr) (R : Pat) (x : Int), vs = [.ref a, .int x] ∧ PatAt H a R ∧ Q (.int (val R x)) H
theorem scShows : FnScope ["pattern", "place", "at", "setting"] ["pattern", "place"] (defScope sShows) := ⟨rfl, rfl, rfl, by decide +kernel, rfl, by decide +kernel, by decide +kernel⟩
theorem ok_shows {f : Addr} {fd : FuncData} {k : Nat} (F : Fun K "shows" "shows" sShows f fd) : FnOk P w K mg base CX0 (k + 1) f fd ["pattern", "place"] spShows := by
  refine F.ok scShows (fun vs H Q E h => ?_) (fun cdv A outer s H vs Q E hr h => ?_)
  · obtain ⟨a, R, x, rfl, _⟩ := h
    rfl
  · obtain ⟨a, R, x, rfl, ⟨as, ha, hR⟩, q⟩ := h
    refine ⟨_, pss_cons (ps_for PassesOwn.never rfl (pi_tup (pv 0)) (pg_tup rfl (pgs_cons (pg_name (i := 2) scShows.nd rfl (.inl rfl)) (pgs_cons (pg_name (i := 3) scShows.nd rfl (.inl rfl)) pgs_nil)))
        (pss_one (ps_if (pt_cmpR op_eq (pv 2) (pv 1) (nomark _)) (pss_one (ps_ret (pv 3))) pss_nil)))
      (pss_one (ps_ret pe_int)), ?_⟩
    refine ⟨.ref a, rfl, a, rfl, ⟨_, SqT.of ha⟩, for_tup (K := K) (a := a) (xs := as.map V.ref) (fun i σ H1 => ∃ v2 v3 : Option V, σ = [some (.ref a), some (.int x), v2, v3] ∧ H1 = H ∧ val (R.drop i) x = val R x)
      ⟨none, none, rfl, rfl, rfl⟩ (fun i σ H1 _ ⟨_, _, _, e, _⟩ => by rw [e]; exact SqT.of ha) ?_ ?_⟩
    · rintro i y σ H1 hi ⟨v2, v3, rfl, rfl, hv⟩
      obtain ⟨b, hb, rfl⟩ := ref_at hi
      obtain ⟨r, hr', pr⟩ := paired_at hR hb
      rw [val_drop x hr'] at hv
      refine ⟨b, [.int r.1, .int r.2], rfl, SqT.of pr, rfl, _, _, rfl, _, _, rfl, rfl, .int r.1, rfl, .int x, rfl, rfl, _, rfl, ite2 (fun c => ?_) (fun c => ?_)⟩
      · have e : r.1 = x := V.int.inj (of_decide_eq_true c)
        rw [if_pos e] at hv
        refine ⟨.int r.2, rfl, ?_⟩
        rw [hv]
        exact q
      · have e : ¬ r.1 = x := fun z => c (decide_eq_true (by rw [z]))
        rw [if_neg e] at hv
        exact ⟨_, _, rfl, rfl, hv⟩
    · rintro σ H1 ⟨v2, v3, rfl, rfl, hv⟩
      rw [List.length_map, paired_len hR, List.drop_length] at hv
      rw [← hv] at q
      exact q

/-! ### inverse -/
def spInv : Sp := fun vs H Q _ => ∃ (p s : Int), vs = [.int p, .int s] ∧ Pr p ∧ 0 < s ∧ s < p ∧ ∀ r : Int, 0 < r → r < p → r * s % p = 1 → Q (.int r) H
theorem scInv : FnScope ["p", "setting", "number"] ["p", "setting"] (defScope sInverse) := ⟨rfl, rfl, rfl, by decide +kernel, rfl, by decide +kernel, by decide +kernel⟩
theorem ok_inv {f : Addr} {fd : FuncData} {k : Nat} (F : Fun K "inverse" "inverse" sInverse f fd) (m1 : mg "range" = none) : FnOk P w K mg base CX0 (k + 1) f fd ["p", "setting"] spInv := by
  refine F.ok scInv (fun vs H Q E h => ?_) (fun cdv A outer s H vs Q E hr h => ?_)
  · obtain ⟨p, s, rfl, _⟩ := h
    rfl
  · obtain ⟨p, z, rfl, hp, h1, h2, q⟩ := h
    have hp5 : 2 ≤ p ∧ p ≤ 5 := by rcases hp with e | e | e <;> omega
    refine ⟨_, pss_cons (ps_for PassesOwn.never rfl (pi_range2 (by rfl) m1 (pa_cons pe_int (pa_cons (pv 0) pa_nil))) (pg_name (i := 2) scInv.nd rfl (.inl rfl))
        (pss_one (ps_if (pt_cmpR op_eq (pe_op op_mod (pe_op op_mul (pv 2) (pv 1)) (pv 0)) pe_int (nomark _)) (pss_one (ps_ret (pv 2))) pss_nil)))
      (pss_one (ps_ret pe_int)), ?_⟩
    refine ⟨.int p, rfl, 1, p, rfl, ⟨by decide, by decide, by omega, by omega⟩, for_range (lo := 1) (n := (p - 1).toNat) (fun i σ H1 => ∃ v2 : Option V, σ = [some (.int p), some (.int z), v2] ∧ H1 = H ∧ ∀ j : Nat, j < i → (1 + (j : Int)) * z % p ≠ 1)
      ⟨none, rfl, rfl, fun j hj => absurd hj (Nat.not_lt_zero _)⟩ ?_ ?_⟩
    · rintro i σ H1 hi ⟨v2, rfl, rfl, hn⟩
      refine ⟨.int (1 + (i : Int)), rfl, .int z, rfl, _, _, rfl, rfl, .inl (lt64 (by omega) (by omega)), .int p, rfl, _, _, rfl, rfl, by omega, rfl, _, rfl, ite2 (fun c => ?_) (fun c => ?_)⟩
      · have e : (1 + (i : Int)) * z % p = 1 := V.int.inj (of_decide_eq_true c)
        exact ⟨_, rfl, q _ (by omega) (by omega) e⟩
      · refine ⟨_, rfl, rfl, fun j hj => ?_⟩
        by_cases e : j = i
        · rw [e]
          exact fun y => c (decide_eq_true (congrArg V.int y))
        · exact hn j (by omega)
    · rintro σ H1 ⟨v2, rfl, rfl, hn⟩
      obtain ⟨j, hj, e⟩ := hp.inv h1 h2
      exact absurd e (hn j (by omega))

/-! ### column, length -/
def spCol : Sp := fun vs H Q _ => ∃ x : Int, vs = [.int x, .int 0] ∧ Q (.int x) H
theorem scCol : FnScope ["place", "stride"] ["place", "stride"] (defScope sColumn) := ⟨rfl, rfl, rfl, by decide +kernel, rfl, by decide +kernel, by decide +kernel⟩
theorem ok_col {f : Addr} {fd : FuncData} {k : Nat} (F : Fun K "column" "column" sColumn f fd) : FnOk P w K mg base CX0 (k + 1) f fd ["place", "stride"] spCol := by
  refine F.ok scCol (fun vs H Q E h => ?_) (fun cdv A outer s H vs Q E hr h => ?_)
  · obtain ⟨x, rfl, _⟩ := h
    rfl
  · obtain ⟨x, rfl, q⟩ := h
    refine ⟨_, pss_cons (ps_if (pt_cmpR op_eq (pv 1) pe_int (nomark _)) (pss_one (ps_ret (pv 0))) pss_nil) (pss_one ps_never), ?_⟩
    exact ⟨.int 0, rfl, rfl, _, rfl, ⟨.int x, rfl, q⟩⟩
def spLen : Sp := fun vs H Q _ => ∃ v : V, vs = [.int 0, v] ∧ Q (.int 0) H
theorem scLen : FnScope ["stride", "pattern", "places"] ["stride", "pattern"] (defScope sLength) := ⟨rfl, rfl, rfl, by decide +kernel, rfl, by decide +kernel, by decide +kernel⟩
theorem ok_len {f : Addr} {fd : FuncData} {k : Nat} (F : Fun K "length" "length" sLength f fd) : FnOk P w K mg base CX0 (k + 1) f fd ["stride", "pattern"] spLen := by
  refine F.ok scLen (fun vs H Q E h => ?_) (fun cdv A outer s H vs Q E hr h => ?_)
  · obtain ⟨x, rfl, _⟩ := h
    rfl
  · obtain ⟨x, rfl, q⟩ := h
    refine ⟨_, pss_cons (ps_if (pt_cmpR op_eq (pv 0) pe_int (nomark _)) (pss_one (ps_ret pe_int)) pss_nil) pss_never, ?_⟩
    exact ⟨.int 0, rfl, rfl, _, rfl, q⟩

/-! ### first_column, places_in -/
def spFirst : Sp := fun vs H Q _ => ∃ (a : Addr) (R : Pat) (at_ : Int), vs = [.int 0, .ref a] ∧ PatAt H a R ∧ Low R at_ ∧ R.length ≤ 100 ∧ ∀ H', Same H H' → Q (.int at_) H'
theorem scFirst : FnScope ["stride", "pattern", "place", "setting"] ["stride", "pattern"] (defScope sFirst) := ⟨rfl, rfl, rfl, by decide +kernel, rfl, by decide +kernel, by decide +kernel⟩
theorem ok_first {f fC : Addr} {fd fdC : FuncData} {k : Nat} (F : Fun K "first_column" "first_column" sFirst f fd) (FC : Fun K "column" "column" sColumn fC fdC) (bC : Binds K fdC ["place", "stride"] []) (gC : mg "column" = some (.ref fC)) (m1 : mg "min" = none) :
    FnOk P w K mg base CX0 (k + 2) f fd ["stride", "pattern"] spFirst := by
  have GC : FnOk P w K mg base CX0 (k + 1) fC fdC ["place", "stride"] spCol := ok_col FC
  refine F.ok scFirst (fun vs H Q E h => ?_) (fun cdv A outer s H vs Q E hr h => ?_)
  · obtain ⟨a, R, at_, rfl, _⟩ := h
    rfl
  · obtain ⟨a, R, at_, rfl, ⟨as, ha, hR⟩, hlow, hlen, q⟩ := h
    refine ⟨_, pss_one (ps_ret (pe_callB (cr_min rfl) (by rfl) m1 (by decide +kernel) (pa_cons
      (pe_lc (own := [("place", 2), ("setting", 3)]) (g := gTup K 2 (gCons (gName 2) (gCons (gName 3) gNil))) rfl scFirst.nd (pi_tup (pv 1)) (blkOk_by (N := ["stride", "pattern", "place", "setting"]) (sc := defScope sFirst) (by decide +kernel))
        (fun _ _ _ _ _ => pg_tup rfl (pgs_cons (pg_name (i := 2) scFirst.nd rfl (.inl rfl)) (pgs_cons (pg_name (i := 3) scFirst.nd rfl (.inl rfl)) pgs_nil))) (fun _ _ _ _ _ => pts_nil)
        (fun _ _ _ _ _ => pe_call GC hr (by rfl) gC FC.kp bC .nil pass0 (pa_cons (pv 2) (pa_cons (pv 0) pa_nil)))) pa_nil))), ?_⟩
    refine ⟨.ref a, rfl, a, rfl, ⟨_, SqT.of ha⟩, fun D nD => lc_tup (K := K) (a := a) (xs := as.map V.ref) (fun i H1 => Same H H1 ∧ H1 D = some (.lst (((R.take i).map (·.1)).map V.int)))
      ⟨same_upd nD, upd_same⟩ (fun i H1 _ ⟨s1, _⟩ => SqT.of (s1 _ _ ha)) ?_ ?_⟩
    · rintro i x H1 hx ⟨s1, hD⟩
      obtain ⟨b, hb, rfl⟩ := ref_at hx
      obtain ⟨r, hr', pr⟩ := paired_at hR hb
      refine ⟨b, [.int r.1, .int r.2], rfl, SqT.of (s1 _ _ pr), rfl, _, _, rfl, _, _, rfl, rfl, rfl, .int r.1, rfl, .int 0, rfl, r.1, rfl, _, hD, ?_, same_put s1 nD, ?_⟩
      · rw [List.length_map, List.length_map, List.length_take]
        exact lt_line (by omega)
      · rw [upd_same, take_snoc hr', List.map_append, List.map_append]
        rfl
    · rintro H1 ⟨s1, hD⟩
      rw [List.length_map, paired_len hR, List.take_length] at hD
      obtain ⟨s, r, rfl, hl⟩ := hlow
      refine ⟨D, _, rfl, SqL.of hD, by simp, fun m hm hle => ?_⟩
      have e : m = at_ := by
        have h1 := hle at_ (by simp)
        rw [List.map_cons] at hm
        rcases List.mem_cons.mp hm with z | z
        · exact z
        · obtain ⟨y, hy, e⟩ := List.mem_map.mp z
          have := hl y hy
          omega
      rw [e]
      exact q _ s1
def spPlaces (p : Int) : Sp := fun vs H Q _ => ∃ (a : Addr) (R : Pat) (x : Int), vs = [.int 0, .ref a, .int x] ∧ PatAt H a R ∧ R.length ≤ 100 ∧ Canon p R ∧ ∀ H' l, Same H H' → H' l = some (.lst ((if val R x = 0 then [] else [x]).map V.int)) → Q (.ref l) H'
theorem scPlaces : FnScope ["stride", "pattern", "at", "place", "setting"] ["stride", "pattern", "at"] (defScope sPlaces) := ⟨rfl, rfl, rfl, by decide +kernel, rfl, by decide +kernel, by decide +kernel⟩
theorem ok_places {p : Int} {f fC : Addr} {fd fdC : FuncData} {k : Nat} (F : Fun K "places_in" "places_in" sPlaces f fd) (FC : Fun K "column" "column" sColumn fC fdC) (bC : Binds K fdC ["place", "stride"] []) (gC : mg "column" = some (.ref fC)) :
    FnOk P w K mg base CX0 (k + 2) f fd ["stride", "pattern", "at"] (spPlaces p) := by
  have GC : FnOk P w K mg base CX0 (k + 1) fC fdC ["place", "stride"] spCol := ok_col FC
  refine F.ok scPlaces (fun vs H Q E h => ?_) (fun cdv A outer s H vs Q E hr h => ?_)
  · obtain ⟨a, R, at_, rfl, _⟩ := h
    rfl
  · obtain ⟨a, R, at_, rfl, ⟨as, ha, hR⟩, hlen, hc, q⟩ := h
    refine ⟨_, pss_one (ps_ret
      (pe_lc (own := [("place", 3), ("setting", 4)]) (g := gTup K 2 (gCons (gName 3) (gCons (gName 4) gNil))) rfl scPlaces.nd (pi_tup (pv 1)) (blkOk_by (N := ["stride", "pattern", "at", "place", "setting"]) (sc := defScope sPlaces) (by decide +kernel))
        (fun _ _ _ _ _ => pg_tup rfl (pgs_cons (pg_name (i := 3) scPlaces.nd rfl (.inl rfl)) (pgs_cons (pg_name (i := 4) scPlaces.nd rfl (.inl rfl)) pgs_nil)))
        (fun _ _ _ _ _ => pts_one (pt_cmpR op_eq (pe_call GC hr (by rfl) gC FC.kp bC .nil pass0 (pa_cons (pv 3) (pa_cons (pv 0) pa_nil))) (pv 2) (nomark _)))
        (fun _ _ _ _ _ => pv 3))), ?_⟩
    refine ⟨.ref a, rfl, a, rfl, ⟨_, SqT.of ha⟩, fun D nD => lc_tup (K := K) (a := a) (xs := as.map V.ref) (fun i H1 => Same H H1 ∧ H1 D = some (.lst ((((R.take i).map (·.1)).filter fun x => decide (x = at_)).map V.int)))
      ⟨same_upd nD, upd_same⟩ (fun i H1 _ ⟨s1, _⟩ => SqT.of (s1 _ _ ha)) ?_ ?_⟩
    · rintro i x H1 hx ⟨s1, hD⟩
      obtain ⟨b, hb, rfl⟩ := ref_at hx
      obtain ⟨r, hr', pr⟩ := paired_at hR hb
      refine ⟨b, [.int r.1, .int r.2], rfl, SqT.of (s1 _ _ pr), rfl, _, _, rfl, _, _, rfl, rfl, rfl, .int r.1, rfl, .int 0, rfl, r.1, rfl, .int at_, rfl, rfl, _, rfl, ite2 (fun c => ?_) (fun c => ?_)⟩
      · have e : r.1 = at_ := V.int.inj (of_decide_eq_true c)
        refine ⟨.int r.1, rfl, _, hD, ?_, same_put s1 nD, ?_⟩
        · rw [List.length_map]
          refine lt_line (Nat.le_trans (List.length_filter_le _ _) ?_)
          rw [List.length_map, List.length_take]
          omega
        · rw [upd_same, take_snoc hr', List.map_append, List.filter_append, List.map_append]
          have : List.filter (fun x => decide (x = at_)) (List.map (fun x => x.1) [r]) = [r.1] := by simp [e]
          rw [this]
          rfl
      · have e : ¬ r.1 = at_ := fun z => c (decide_eq_true (by rw [z]))
        refine ⟨s1, ?_⟩
        rw [take_snoc hr', List.map_append, List.filter_append]
        have : List.filter (fun x => decide (x = at_)) (List.map (fun x => x.1) [r]) = [] := by simp [e]
        rw [this, List.append_nil]
        exact hD
    · rintro H1 ⟨s1, hD⟩
      rw [List.length_map, paired_len hR, List.take_length, canon_filter hc] at hD
      exact q _ _ s1 hD
end
end D24
set_option Elab.async false
set_option linter.all false
set_option maxRecDepth 100000
set_option maxHeartbeats 4000000
/-! misplaced, added, moved, timed, shifted. -/
namespace D24
open PySem PySem.Spec PyProof.Rows L2
section
variable {P : Program} {w : World} {K : PySem.W.Frag} {mg : Str → Option Value} {base : Heap}
/-- a def of the text, at hand: where it stands, how it binds -/
structure At (K : PySem.W.Frag) (mg : Str → Option Value) (x : Str) (st : Stmt) (ps : List Str) (f : Addr) (fd : FuncData) : Prop where
  F : Fun K x x st f fd
  b : Binds K fd ps []
  g : mg x = some (.ref f)
/-! ### misplaced -/
def spMis (p : Int) : Sp := fun vs H Q _ => ∃ (a b : Addr) (S R : Pat) (at_ : Int), vs = [.int 0, .ref a, .ref b] ∧ PatAt H a S ∧ Low S at_ ∧ S.length ≤ 100 ∧ PatAt H b R ∧ R.length ≤ 100 ∧ Canon p R ∧
  ∀ H' l, Same H H' → H' l = some (.lst ((if val R at_ = 0 then [] else [at_]).map V.int)) → Q (.ref l) H'
theorem scMis : FnScope ["stride", "stair", "pattern", "at", "top", "places"] ["stride", "stair", "pattern"] (defScope sMis) := ⟨rfl, rfl, rfl, by decide +kernel, rfl, by decide +kernel, by decide +kernel⟩
theorem ok_mis {p : Int} {f fF fL fP : Addr} {fd fdF fdL fdP : FuncData} {k : Nat} (F : Fun K "misplaced" "misplaced" sMis f fd)
    (GF : FnOk P w K mg base CX0 k fF fdF ["stride", "pattern"] spFirst) (AF : At K mg "first_column" sFirst ["stride", "pattern"] fF fdF)
    (GL : FnOk P w K mg base CX0 k fL fdL ["stride", "pattern"] spLen) (AL : At K mg "length" sLength ["stride", "pattern"] fL fdL)
    (GP : FnOk P w K mg base CX0 k fP fdP ["stride", "pattern", "at"] (spPlaces p)) (AP : At K mg "places_in" sPlaces ["stride", "pattern", "at"] fP fdP) (ml : mg "len" = none) :
    FnOk P w K mg base CX0 (k + 1) f fd ["stride", "stair", "pattern"] (spMis p) := by
  refine F.ok scMis (fun vs H Q E h => ?_) (fun cdv A outer s H vs Q E hr h => ?_)
  · obtain ⟨a, b, S, R, at_, rfl, _⟩ := h
    rfl
  · obtain ⟨a, b, S, R, at_, rfl, hS, hlow, hSl, hR, hRl, hRc, q⟩ := h
    refine ⟨_, pss_cons (ps_set (i := 3) scMis.nd rfl (.inl rfl) (pe_call GF hr (by rfl) AF.g AF.F.kp AF.b .nil pass0 (pa_cons (pv 0) (pa_cons (pv 1) pa_nil))))
      (pss_cons (ps_set (i := 4) scMis.nd rfl (.inl rfl) (pe_op op_add (pv 3) (pe_op op_mul (pv 0) (pe_call GL hr (by rfl) AL.g AL.F.kp AL.b .nil pass0 (pa_cons (pv 0) (pa_cons (pv 1) pa_nil))))))
      (pss_cons (ps_set (i := 5) scMis.nd rfl (.inl rfl) (pe_call GP hr (by rfl) AP.g AP.F.kp AP.b .nil pass0 (pa_cons (pv 0) (pa_cons (pv 2) (pa_cons (pv 3) pa_nil)))))
      (pss_cons (ps_if (PW.pt (pw_and (pt_cmpR op_gt (pe_callB call_len_seq (by rfl) ml PySem.boot_len (pa_cons (pv 5) pa_nil)) pe_int (nomark _)) (pw_and1 (pt_cmpR op_ge (pe_ix ix_list (pv 5) (pe_un un_neg pe_int) (fun _ _ => rfl)) (pv 4) (nomark _)))))
        (pss_one (ps_ret (pe_lst (pa_cons (pe_ix ix_list (pv 5) (pe_un un_neg pe_int) (fun _ _ => rfl)) pa_nil)))) pss_nil)
      (pss_cons (ps_if (PW.pt (pw_and (pt_cmpR op_gt (pe_callB call_len_seq (by rfl) ml PySem.boot_len (pa_cons (pv 5) pa_nil)) pe_int (nomark _)) (pw_and1 (pt_cmpR op_lt (pe_ix ix_list (pv 5) pe_int (fun _ _ => rfl)) (pv 3) (nomark _)))))
        (pss_one (ps_ret (pe_lst (pa_cons (pe_ix ix_list (pv 5) pe_int (fun _ _ => rfl)) pa_nil)))) pss_nil)
      (pss_one (ps_ret (pe_lst pa_nil))))))), ?_⟩
    refine ⟨.int 0, rfl, .ref a, rfl, a, S, at_, rfl, hS, hlow, hSl, fun H1 s1 => ?_⟩
    refine ⟨.int at_, rfl, .int 0, rfl, .int 0, rfl, .ref a, rfl, .ref a, rfl, 0, 0, rfl, rfl, .inl (lt64 (by decide) (by decide)), at_, 0 * 0, rfl, rfl,
      .int 0, rfl, .ref b, rfl, .int at_, rfl, b, R, at_, rfl, hR.same s1, hRl, hRc, fun H2 l s2 hl => ?_⟩
    have s12 : Same H H2 := s1.trans s2
    by_cases e : val R at_ = 0
    · rw [if_pos e] at hl q
      refine ⟨.ref l, rfl, l, [], rfl, .inl (SqL.of hl), _, _, rfl, rfl, _, rfl, ite2 (fun c => absurd (of_decide_eq_true c) (by decide)) (fun _ => iteF ?_)⟩
      refine ⟨.ref l, rfl, l, [], rfl, .inl (SqL.of hl), _, _, rfl, rfl, _, rfl, ite2 (fun c => absurd (of_decide_eq_true c) (by decide)) (fun _ => iteF ?_)⟩
      exact ⟨Nat.zero_le _, fun r nr => q _ r (s12.trans (same_upd nr)) upd_same⟩
    · rw [if_neg e] at hl q
      have hl : H2 l = some (.lst [.int at_]) := hl
      refine ⟨.ref l, rfl, l, [.int at_], rfl, .inl (SqL.of hl), _, _, rfl, rfl, _, rfl, ite2 (fun c => ?_) (fun c => absurd (decide_eq_true (by show (0 : Int) < ((1 : Nat) : Int); decide)) c)⟩
      refine ⟨.ref l, rfl, 1, rfl, l, _, -1, .int at_, rfl, rfl, SqL.of hl, rfl, .int (at_ + 0 * 0), rfl, _, _, rfl, rfl, _, rfl, ite2 (fun c => ?_) (fun c => absurd (decide_eq_true (by omega)) c)⟩
      refine ⟨.ref l, rfl, 1, rfl, l, _, -1, .int at_, rfl, rfl, SqL.of hl, rfl, le_line (by show 1 ≤ 1000000; decide), fun r nr => q _ r (s12.trans (same_upd nr)) upd_same⟩

/-! ### added -/
def spAdded : Sp := fun vs H Q _ => ∃ (p : Int) (a b : Addr) (R S : Pat), vs = [.int p, .ref a, .ref b] ∧ 0 < p ∧ Good p R ∧ Good p S ∧ PatAt H a R ∧ PatAt H b S ∧
  ∀ H' c T, Same H H' → Good p T → (∀ x, val T x = (val R x + val S x) % p) → PatAt H' c T → Q (.ref c) H'
def spAddedM : Sp := fun vs H Q _ => ∃ (p : Int) (a b : Addr) (M N : Mak), vs = [.int p, .ref a, .ref b] ∧ 0 < p ∧ MkOK M ∧ MkOK N ∧ MakAt H a M ∧ MakAt H b N ∧
  ∀ H' c T, Same H H' → MkOK T → MakAt H' c T → Q (.ref c) H'
theorem scAdded : FnScope ["p", "one", "other"] ["p", "one", "other"] (defScope sAdded) := ⟨rfl, rfl, rfl, by decide +kernel, rfl, by decide +kernel, by decide +kernel⟩
theorem good_add {p : Int} {R S T : Pat} (hR : Good p R) (hS : Good p S) (hc : Canon p T) (hv : ∀ x, val T x = (val R x + val S x) % p) : Good p T := good_of hc fun x hx => by
  rw [hv] at hx
  have := bd_comb (p := p) (c := 1) hR.bd hS.bd x (by rw [Int.one_mul]; exact hx)
  exact this
theorem ok_added {f fT : Addr} {fd fdT : FuncData} {k : Nat} (F : Fun K "added" "added" sAdded f fd)
    (GT : FnOk P w K mg base CX0 k fT fdT ["p", "pairs"] spTidy) (AT : At K mg "tidy" sTidy ["p", "pairs"] fT fdT) (m1 : mg "list" = none) :
    FnOk P w K mg base CX0 (k + 1) f fd ["p", "one", "other"] spAdded := by
  refine F.ok scAdded (fun vs H Q E h => ?_) (fun cdv A outer s H vs Q E hr h => ?_)
  · obtain ⟨p, a, b, R, S, rfl, _⟩ := h
    rfl
  · obtain ⟨p, a, b, R, S, rfl, hp, gR, gS, ⟨as, ha, hR⟩, ⟨bs, hb, hS⟩, q⟩ := h
    refine ⟨_, pss_one (ps_ret (pe_call GT hr (by rfl) AT.g AT.F.kp AT.b .nil pass0 (pa_cons (pv 0) (pa_cons (pe_op op_cat (pe_callTy call_list_of (by rfl) m1 (by decide +kernel) (pa_cons (pv 1) pa_nil)) (pe_callTy call_list_of (by rfl) m1 (by decide +kernel) (pa_cons (pv 2) pa_nil))) pa_nil)))), ?_⟩
    refine ⟨.int p, rfl, .ref a, rfl, a, _, rfl, .inr (SqT.of ha), fun l1 n1 => ?_⟩
    have s1 : Same H (upd H l1 (.lst (as.map V.ref))) := same_upd n1
    refine ⟨.ref b, rfl, b, _, rfl, .inr (SqT.of (s1 _ _ hb)), fun l2 n2 => ?_⟩
    have s2 := same_upd (o := .lst (bs.map V.ref)) n2
    have e1 := paired_len hR
    have e2 := paired_len hS
    have g1 := gR.len
    have g2 := gS.len
    refine ⟨l1, l2, _, _, rfl, rfl, s2 _ _ upd_same, upd_same, by rw [List.length_map, List.length_map]; exact le_line (by omega), fun l3 n3 => ?_⟩
    have s3 := same_upd (o := .lst (as.map V.ref ++ bs.map V.ref)) n3
    have s13 := (s1.trans s2).trans s3
    refine ⟨p, l3, R ++ S, rfl, hp, ⟨as ++ bs, by rw [upd_same, List.map_append], paired_app (pairs_keep (Tk.same s13) hR) (pairs_keep (Tk.same s13) hS)⟩, by rw [List.length_append]; omega, fun H' c T s4 hc hv hT => ?_⟩
    have hv2 : ∀ x, val T x = (val R x + val S x) % p := fun x => by rw [hv, sumAt_append, canon_sum gR.can, canon_sum gS.can]
    exact q H' c T (s13.trans s4) (good_add gR gS hc hv2) hv2 hT
theorem ok_addedM {f fT : Addr} {fd fdT : FuncData} {k : Nat} (F : Fun K "added" "added" sAdded f fd)
    (GT : FnOk P w K mg base CX0 k fT fdT ["p", "pairs"] spTidyM) (AT : At K mg "tidy" sTidy ["p", "pairs"] fT fdT) (m1 : mg "list" = none) :
    FnOk P w K mg base CX0 (k + 1) f fd ["p", "one", "other"] spAddedM := by
  refine F.ok scAdded (fun vs H Q E h => ?_) (fun cdv A outer s H vs Q E hr h => ?_)
  · obtain ⟨p, a, b, R, S, rfl, _⟩ := h
    rfl
  · obtain ⟨p, a, b, R, S, rfl, hp, gR, gS, ⟨as, ha, hR⟩, ⟨bs, hb, hS⟩, q⟩ := h
    refine ⟨_, pss_one (ps_ret (pe_call GT hr (by rfl) AT.g AT.F.kp AT.b .nil pass0 (pa_cons (pv 0) (pa_cons (pe_op op_cat (pe_callTy call_list_of (by rfl) m1 (by decide +kernel) (pa_cons (pv 1) pa_nil)) (pe_callTy call_list_of (by rfl) m1 (by decide +kernel) (pa_cons (pv 2) pa_nil))) pa_nil)))), ?_⟩
    refine ⟨.int p, rfl, .ref a, rfl, a, _, rfl, .inr (SqT.of ha), fun l1 n1 => ?_⟩
    have s1 : Same H (upd H l1 (.lst (as.map V.ref))) := same_upd n1
    refine ⟨.ref b, rfl, b, _, rfl, .inr (SqT.of (s1 _ _ hb)), fun l2 n2 => ?_⟩
    have s2 := same_upd (o := .lst (bs.map V.ref)) n2
    have e1 := paired_len hR
    have e2 := paired_len hS
    have g1 := gR.len
    have g2 := gS.len
    refine ⟨l1, l2, _, _, rfl, rfl, s2 _ _ upd_same, upd_same, by rw [List.length_map, List.length_map]; exact le_line (by omega), fun l3 n3 => ?_⟩
    have s3 := same_upd (o := .lst (as.map V.ref ++ bs.map V.ref)) n3
    have s13 := (s1.trans s2).trans s3
    refine ⟨p, l3, R ++ S, rfl, hp, ⟨as ++ bs, by rw [upd_same, List.map_append], paired_app (mpairs_keep (Tk.same s13) hR) (mpairs_keep (Tk.same s13) hS)⟩, fun z hz => ?_, fun H' c T s4 hc hT => ?_⟩
    · rcases List.mem_append.mp hz with y | y
      · exact gR.ok z y
      · exact gS.ok z y
    · exact q H' c T (s13.trans s4) hc hT

/-! ### moved (by nought) -/
def spMoved : Sp := fun vs H Q _ => ∃ (a : Addr) (R : Pat), vs = [.ref a, .int 0] ∧ PatAt H a R ∧ R.length ≤ 100 ∧ ∀ H' c, Same H H' → PatAt H' c R → Q (.ref c) H'
theorem scMoved : FnScope ["pattern", "by", "place", "setting"] ["pattern", "by"] (defScope sMoved) := ⟨rfl, rfl, rfl, by decide +kernel, rfl, by decide +kernel, by decide +kernel⟩
theorem ok_moved {f : Addr} {fd : FuncData} {k : Nat} (F : Fun K "moved" "moved" sMoved f fd) (m1 : mg "tuple" = none) : FnOk P w K mg base CX0 (k + 1) f fd ["pattern", "by"] spMoved := by
  refine F.ok scMoved (fun vs H Q E h => ?_) (fun cdv A outer s H vs Q E hr h => ?_)
  · obtain ⟨a, R, rfl, _⟩ := h
    rfl
  · obtain ⟨a, R, rfl, ⟨as, ha, hR⟩, hlen, q⟩ := h
    refine ⟨_, pss_one (ps_ret (pe_callTy call_tuple_of (by rfl) m1 (by decide +kernel) (pa_cons
      (pe_lc (own := [("place", 2), ("setting", 3)]) (g := gTup K 2 (gCons (gName 2) (gCons (gName 3) gNil))) rfl scMoved.nd (pi_tup (pv 0)) (blkOk_by (N := ["pattern", "by", "place", "setting"]) (sc := defScope sMoved) (by decide +kernel))
        (fun _ _ _ _ _ => pg_tup rfl (pgs_cons (pg_name (i := 2) scMoved.nd rfl (.inl rfl)) (pgs_cons (pg_name (i := 3) scMoved.nd rfl (.inl rfl)) pgs_nil))) (fun _ _ _ _ _ => pts_nil)
        (fun _ _ _ _ _ => pe_tup (pa_cons (pe_op op_add (pv 2) (pv 1)) (pa_cons (pv 3) pa_nil)))) pa_nil))), ?_⟩
    refine ⟨.ref a, rfl, a, rfl, ⟨_, SqT.of ha⟩, fun D nD => lc_tup (K := K) (a := a) (xs := as.map V.ref) (fun i H1 => ∃ bs : List Addr, Same H H1 ∧ H1 D = some (.lst (bs.map V.ref)) ∧ Paired (PairAt H1) bs (R.take i))
      ⟨[], same_upd nD, upd_same, .nil⟩ (fun i H1 _ ⟨_, s1, _⟩ => SqT.of (s1 _ _ ha)) ?_ ?_⟩
    · rintro i x H1 hx ⟨bs, s1, hD, pb⟩
      obtain ⟨b, hb, rfl⟩ := ref_at hx
      obtain ⟨r, hr', pr⟩ := paired_at hR hb
      refine ⟨b, [.int r.1, .int r.2], rfl, SqT.of (s1 _ _ pr), rfl, _, _, rfl, _, _, rfl, rfl, rfl, .int r.1, rfl, .int 0, rfl, _, _, rfl, rfl, .int r.2, rfl, le_line (by show 2 ≤ 1000000; decide), fun t nt => ?_⟩
      have nDt : D ≠ t := ne_of_none hD nt
      refine ⟨_, by rw [upd_ne nDt]; exact hD, ?_, bs ++ [t], same_put (s1.trans (same_upd nt)) nD, by rw [upd_same, List.map_append]; rfl, ?_⟩
      · have a1 := paired_len pb
        rw [List.length_take] at a1
        rw [List.length_map]
        exact lt_line (by omega)
      · rw [take_snoc hr']
        refine paired_app (pairs_keep (Tk.trans (Tk.same (same_upd nt)) (tk_upd fun xs z => ?_)) pb) (.cons ?_ .nil)
        · rw [upd_ne nDt, hD] at z
          cases z
        · show (upd (upd H1 t _) D _) t = _
          rw [upd_ne nDt.symm, upd_same]
          show some (HO.tup [V.int (r.1 + 0), V.int r.2]) = _
          rw [Int.add_zero]
    · rintro H1 ⟨bs, s1, hD, pb⟩
      rw [List.length_map, paired_len hR, List.take_length] at pb
      exact ⟨D, _, rfl, .inl ⟨SqL.of hD, fun c nc => q _ c (s1.trans (same_upd nc)) ⟨bs, upd_same, pairs_keep (Tk.same (same_upd nc)) pb⟩⟩⟩

/-! ### shifted (by nought) -/
def spShifted : Sp := fun vs H Q _ => ∃ (a : Addr) (M : Mak), vs = [.ref a, .int 0] ∧ MakAt H a M ∧ MkOK M ∧ ∀ H' c, Same H H' → MakAt H' c M → Q (.ref c) H'
theorem scShifted : FnScope ["maker", "by", "which", "shift", "setting"] ["maker", "by"] (defScope sShifted) := ⟨rfl, rfl, rfl, by decide +kernel, rfl, by decide +kernel, by decide +kernel⟩
theorem ok_shifted {f : Addr} {fd : FuncData} {k : Nat} (F : Fun K "shifted" "shifted" sShifted f fd) (m1 : mg "tuple" = none) : FnOk P w K mg base CX0 (k + 1) f fd ["maker", "by"] spShifted := by
  refine F.ok scShifted (fun vs H Q E h => ?_) (fun cdv A outer s H vs Q E hr h => ?_)
  · obtain ⟨a, R, rfl, _⟩ := h
    rfl
  · obtain ⟨a, R, rfl, ⟨as, ha, hR⟩, hok, q⟩ := h
    have hlen := hok.len
    refine ⟨_, pss_one (ps_ret (pe_callTy call_tuple_of (by rfl) m1 (by decide +kernel) (pa_cons
      (pe_lc (own := [("which", 2), ("shift", 3), ("setting", 4)]) (g := gTup K 2 (gCons (gTup K 2 (gCons (gName 2) (gCons (gName 3) gNil))) (gCons (gName 4) gNil))) rfl scShifted.nd (pi_tup (pv 0)) (blkOk_by (N := ["maker", "by", "which", "shift", "setting"]) (sc := defScope sShifted) (by decide +kernel))
        (fun _ _ _ _ _ => pg_tup rfl (pgs_cons (pg_tup rfl (pgs_cons (pg_name (i := 2) scShifted.nd rfl (.inl rfl)) (pgs_cons (pg_name (i := 3) scShifted.nd rfl (.inl rfl)) pgs_nil))) (pgs_cons (pg_name (i := 4) scShifted.nd rfl (.inl rfl)) pgs_nil))) (fun _ _ _ _ _ => pts_nil)
        (fun _ _ _ _ _ => pe_tup (pa_cons (pe_tup (pa_cons (pv 2) (pa_cons (pe_op op_add (pv 3) (pv 1)) pa_nil))) (pa_cons (pv 4) pa_nil)))) pa_nil))), ?_⟩
    refine ⟨.ref a, rfl, a, rfl, ⟨_, SqT.of ha⟩, fun D nD => lc_tup (K := K) (a := a) (xs := as.map V.ref) (fun i H1 => ∃ bs : List Addr, Same H H1 ∧ H1 D = some (.lst (bs.map V.ref)) ∧ Paired (MPairAt H1) bs (R.take i))
      ⟨[], same_upd nD, upd_same, .nil⟩ (fun i H1 _ ⟨_, s1, _⟩ => SqT.of (s1 _ _ ha)) ?_ ?_⟩
    · rintro i x H1 hx ⟨bs, s1, hD, pb⟩
      obtain ⟨b, hb, rfl⟩ := ref_at hx
      obtain ⟨r, hr', kt, pr, pk⟩ := paired_at hR hb
      refine ⟨b, [.ref kt, .int r.2], rfl, SqT.of (s1 _ _ pr), rfl, _, _, rfl, kt, [.int r.1.1, .int r.1.2], rfl, SqT.of (s1 _ _ pk), rfl, _, _, rfl, _, _, rfl, rfl, _, _, rfl, rfl, rfl,
        .int r.1.1, rfl, .int r.1.2, rfl, .int 0, rfl, _, _, rfl, rfl, le_line (by show 2 ≤ 1000000; decide), fun t1 nt1 => ⟨.int r.2, rfl, le_line (by show 2 ≤ 1000000; decide), fun t nt => ?_⟩⟩
      have nD1 : D ≠ t1 := ne_of_none hD nt1
      have hD1 := (same_upd (o := .tup [.int r.1.1, .int (r.1.2 + 0)]) nt1) _ _ hD
      have nDt : D ≠ t := ne_of_none hD1 nt
      have n1t : t1 ≠ t := ne_of_none (H := upd H1 t1 (.tup [.int r.1.1, .int (r.1.2 + 0)])) upd_same nt
      refine ⟨_, by rw [upd_ne nDt]; exact hD1, ?_, bs ++ [t], same_put ((s1.trans (same_upd nt1)).trans (same_upd nt)) nD, by rw [upd_same, List.map_append]; rfl, ?_⟩
      · have a1 := paired_len pb
        rw [List.length_take] at a1
        rw [List.length_map]
        exact lt_line (by omega)
      · rw [take_snoc hr']
        refine paired_app (mpairs_keep (Tk.trans (Tk.same ((same_upd nt1).trans (same_upd nt))) (tk_upd fun xs z => ?_)) pb) (.cons ⟨t1, ?_, ?_⟩ .nil)
        · rw [upd_ne nDt, hD1] at z
          cases z
        · rw [upd_ne nDt.symm, upd_same]
        · show (upd (upd (upd H1 t1 _) t _) D _) t1 = _
          rw [upd_ne nD1.symm, upd_ne n1t, upd_same]
          show some (HO.tup [V.int r.1.1, V.int (r.1.2 + 0)]) = _
          rw [Int.add_zero]
    · rintro H1 ⟨bs, s1, hD, pb⟩
      rw [List.length_map, paired_len hR, List.take_length] at pb
      exact ⟨D, _, rfl, .inl ⟨SqL.of hD, fun c nc => q _ c (s1.trans (same_upd nc)) ⟨bs, upd_same, mpairs_keep (Tk.same (same_upd nc)) pb⟩⟩⟩

/-! ### timed -/
def spTimed : Sp := fun vs H Q _ => ∃ (p : Int) (a : Addr) (R : Pat) (n : Int), vs = [.int p, .ref a, .int n] ∧ 0 < p ∧ Good p R ∧ PatAt H a R ∧ -1000 ≤ n ∧ n ≤ 1000 ∧
  ∀ H' c T, Same H H' → Good p T → (∀ x, val T x = (val R x * n) % p) → PatAt H' c T → Q (.ref c) H'
def spTimedM : Sp := fun vs H Q _ => ∃ (p : Int) (a : Addr) (M : Mak) (n : Int), vs = [.int p, .ref a, .int n] ∧ 0 < p ∧ MkOK M ∧ MakAt H a M ∧ -1000 ≤ n ∧ n ≤ 1000 ∧
  ∀ H' c T, Same H H' → MkOK T → MakAt H' c T → Q (.ref c) H'
theorem scTimed : FnScope ["p", "pattern", "n", "place", "setting"] ["p", "pattern", "n"] (defScope sTimed) := ⟨rfl, rfl, rfl, by decide +kernel, rfl, by decide +kernel, by decide +kernel⟩
theorem ok_timed {f fT : Addr} {fd fdT : FuncData} {k : Nat} (F : Fun K "timed" "timed" sTimed f fd)
    (GT : FnOk P w K mg base CX0 k fT fdT ["p", "pairs"] spTidy) (AT : At K mg "tidy" sTidy ["p", "pairs"] fT fdT) :
    FnOk P w K mg base CX0 (k + 1) f fd ["p", "pattern", "n"] spTimed := by
  refine F.ok scTimed (fun vs H Q E h => ?_) (fun cdv A outer s H vs Q E hr h => ?_)
  · obtain ⟨p, a, R, n, rfl, _⟩ := h
    rfl
  · obtain ⟨p, a, R, n, rfl, hp, gR, ⟨as, ha, hR⟩, n1, n2, q⟩ := h
    have hlen := gR.len
    refine ⟨_, pss_one (ps_ret (pe_call GT hr (by rfl) AT.g AT.F.kp AT.b .nil pass0 (pa_cons (pv 0) (pa_cons
      (pe_lc (own := [("place", 3), ("setting", 4)]) (g := gTup K 2 (gCons (gName 3) (gCons (gName 4) gNil))) rfl scTimed.nd (pi_tup (pv 1)) (blkOk_by (N := ["p", "pattern", "n", "place", "setting"]) (sc := defScope sTimed) (by decide +kernel))
        (fun _ _ _ _ _ => pg_tup rfl (pgs_cons (pg_name (i := 3) scTimed.nd rfl (.inl rfl)) (pgs_cons (pg_name (i := 4) scTimed.nd rfl (.inl rfl)) pgs_nil))) (fun _ _ _ _ _ => pts_nil)
        (fun _ _ _ _ _ => pe_tup (pa_cons (pv 3) (pa_cons (pe_op op_mul (pv 4) (pv 2)) pa_nil)))) pa_nil)))), ?_⟩
    refine ⟨.int p, rfl, .ref a, rfl, a, rfl, ⟨_, SqT.of ha⟩, fun D nD => lc_tup (K := K) (a := a) (xs := as.map V.ref) (fun i H1 => ∃ bs : List Addr, Same H H1 ∧ H1 D = some (.lst (bs.map V.ref)) ∧ Paired (PairAt H1) bs ((R.take i).map fun q => (q.1, q.2 * n)))
      ⟨[], same_upd nD, upd_same, .nil⟩ (fun i H1 _ ⟨_, s1, _⟩ => SqT.of (s1 _ _ ha)) ?_ ?_⟩
    · rintro i x H1 hx ⟨bs, s1, hD, pb⟩
      obtain ⟨b, hb, rfl⟩ := ref_at hx
      obtain ⟨r, hr', pr⟩ := paired_at hR hb
      refine ⟨b, [.int r.1, .int r.2], rfl, SqT.of (s1 _ _ pr), rfl, _, _, rfl, _, _, rfl, rfl, rfl, .int r.1, rfl, .int r.2, rfl, .int n, rfl, _, _, rfl, rfl, .inr (lt64 n1 n2), le_line (by show 2 ≤ 1000000; decide), fun t nt => ?_⟩
      have nDt : D ≠ t := ne_of_none hD nt
      refine ⟨_, by rw [upd_ne nDt]; exact hD, ?_, bs ++ [t], same_put (s1.trans (same_upd nt)) nD, by rw [upd_same, List.map_append]; rfl, ?_⟩
      · have a1 := paired_len pb
        rw [List.length_map, List.length_take] at a1
        rw [List.length_map]
        exact lt_line (by omega)
      · rw [take_snoc hr', List.map_append]
        refine paired_app (pairs_keep (Tk.trans (Tk.same (same_upd nt)) (tk_upd fun xs z => ?_)) pb) (.cons ?_ .nil)
        · rw [upd_ne nDt, hD] at z
          cases z
        · show (upd (upd H1 t _) D _) t = _
          rw [upd_ne nDt.symm, upd_same]
    · rintro H1 ⟨bs, s1, hD, pb⟩
      rw [List.length_map, paired_len hR, List.take_length] at pb
      refine ⟨p, D, _, rfl, hp, ⟨bs, hD, pb⟩, by rw [List.length_map]; omega, fun H' c T s2 hc hv hT => ?_⟩
      have hv2 : ∀ x, val T x = (val R x * n) % p := fun x => by rw [hv, sumAt_times, canon_sum gR.can]
      refine q H' c T (s1.trans s2) (good_of hc fun x hx => ?_) hv2 hT
      rw [hv2] at hx
      by_cases e : val R x = 0
      · rw [e, Int.zero_mul] at hx
        exact absurd (Int.zero_emod p) hx
      · exact bd_val gR.bd e
theorem ok_timedM {f fT : Addr} {fd fdT : FuncData} {k : Nat} (F : Fun K "timed" "timed" sTimed f fd)
    (GT : FnOk P w K mg base CX0 k fT fdT ["p", "pairs"] spTidyM) (AT : At K mg "tidy" sTidy ["p", "pairs"] fT fdT) :
    FnOk P w K mg base CX0 (k + 1) f fd ["p", "pattern", "n"] spTimedM := by
  refine F.ok scTimed (fun vs H Q E h => ?_) (fun cdv A outer s H vs Q E hr h => ?_)
  · obtain ⟨p, a, R, n, rfl, _⟩ := h
    rfl
  · obtain ⟨p, a, R, n, rfl, hp, gR, ⟨as, ha, hR⟩, n1, n2, q⟩ := h
    have hlen := gR.len
    refine ⟨_, pss_one (ps_ret (pe_call GT hr (by rfl) AT.g AT.F.kp AT.b .nil pass0 (pa_cons (pv 0) (pa_cons
      (pe_lc (own := [("place", 3), ("setting", 4)]) (g := gTup K 2 (gCons (gName 3) (gCons (gName 4) gNil))) rfl scTimed.nd (pi_tup (pv 1)) (blkOk_by (N := ["p", "pattern", "n", "place", "setting"]) (sc := defScope sTimed) (by decide +kernel))
        (fun _ _ _ _ _ => pg_tup rfl (pgs_cons (pg_name (i := 3) scTimed.nd rfl (.inl rfl)) (pgs_cons (pg_name (i := 4) scTimed.nd rfl (.inl rfl)) pgs_nil))) (fun _ _ _ _ _ => pts_nil)
        (fun _ _ _ _ _ => pe_tup (pa_cons (pv 3) (pa_cons (pe_op op_mul (pv 4) (pv 2)) pa_nil)))) pa_nil)))), ?_⟩
    refine ⟨.int p, rfl, .ref a, rfl, a, rfl, ⟨_, SqT.of ha⟩, fun D nD => lc_tup (K := K) (a := a) (xs := as.map V.ref) (fun i H1 => ∃ bs : List Addr, Same H H1 ∧ H1 D = some (.lst (bs.map V.ref)) ∧ Paired (MPairAt H1) bs ((R.take i).map fun q => (q.1, q.2 * n)))
      ⟨[], same_upd nD, upd_same, .nil⟩ (fun i H1 _ ⟨_, s1, _⟩ => SqT.of (s1 _ _ ha)) ?_ ?_⟩
    · rintro i x H1 hx ⟨bs, s1, hD, pb⟩
      obtain ⟨b, hb, rfl⟩ := ref_at hx
      obtain ⟨r, hr', kt, pr, pk⟩ := paired_at hR hb
      refine ⟨b, [.ref kt, .int r.2], rfl, SqT.of (s1 _ _ pr), rfl, _, _, rfl, _, _, rfl, rfl, rfl, .ref kt, rfl, .int r.2, rfl, .int n, rfl, _, _, rfl, rfl, .inr (lt64 n1 n2), le_line (by show 2 ≤ 1000000; decide), fun t nt => ?_⟩
      have nDt : D ≠ t := ne_of_none hD nt
      refine ⟨_, by rw [upd_ne nDt]; exact hD, ?_, bs ++ [t], same_put (s1.trans (same_upd nt)) nD, by rw [upd_same, List.map_append]; rfl, ?_⟩
      · have a1 := paired_len pb
        rw [List.length_map, List.length_take] at a1
        rw [List.length_map]
        exact lt_line (by omega)
      · rw [take_snoc hr', List.map_append]
        have tk : Tk H1 (upd (upd H1 t (.tup [.ref kt, .int (r.2 * n)])) D (.lst (bs.map V.ref ++ [V.ref t]))) := Tk.trans (Tk.same (same_upd nt)) (tk_upd fun xs z => by
          rw [upd_ne nDt, hD] at z
          cases z)
        refine paired_app (mpairs_keep tk pb) (.cons ⟨kt, ?_, tk _ _ (s1 _ _ pk)⟩ .nil)
        rw [upd_ne nDt.symm, upd_same]
    · rintro H1 ⟨bs, s1, hD, pb⟩
      rw [List.length_map, paired_len hR, List.take_length] at pb
      refine ⟨p, D, _, rfl, hp, ⟨bs, hD, pb⟩, fun z hz => ?_, fun H' c T s2 hc hT => ?_⟩
      · obtain ⟨y, hy, rfl⟩ := List.mem_map.mp hz
        exact gR.ok y hy
      · exact q H' c T (s1.trans s2) hc hT
end
end D24
set_option Elab.async false
set_option linter.all false
set_option maxRecDepth 100000
set_option maxHeartbeats 4000000
/-! mixed, normal, lowered, parts_of, taken, rest_of. -/
namespace D24
open PySem PySem.Spec PyProof.Rows L2
/-- a made pattern -/
def OneAt (H : Hp) (o : Addr) (R : Pat) : Prop := ∃ (pa ma : Addr) (M : Mak), H o = some (.tup [.ref pa, .ref ma]) ∧ PatAt H pa R ∧ MakAt H ma M ∧ MkOK M
theorem OneAt.keep {H H' : Hp} {o : Addr} {R : Pat} (t : Tk H H') (h : OneAt H o R) : OneAt H' o R := by
  obtain ⟨pa, ma, M, h1, h2, h3, h4⟩ := h
  exact ⟨pa, ma, M, t _ _ h1, h2.keep t, h3.keep t, h4⟩
theorem SEch.len {p : Int} {S : List (Int × Pat)} (h : SEch p S) : S.length ≤ 13 := by
  have inc : (S.map (·.1)).Pairwise (· < ·) := by
    induction h with
    | nil => exact List.Pairwise.nil
    | cons _ hl _ ih =>
      rw [List.map_cons]
      refine List.pairwise_cons.mpr ⟨fun x hx => ?_, ih⟩
      obtain ⟨q, hq, rfl⟩ := List.mem_map.mp hx
      exact hl q hq
  have h2 := nodup_sub_length (m := places) (nodup_inc inc) fun x hx => by
    obtain ⟨q, hq, rfl⟩ := List.mem_map.mp hx
    have l := h.lead q hq
    exact mem_places.mpr (bd_val l.bd (by rw [l.one]; decide))
  rw [List.length_map] at h2
  exact Nat.le_trans h2 (by decide)
theorem Lead.good {p at_ : Int} {R : Pat} (h : Lead p at_ R) : Good p R := ⟨h.can, h.bd⟩
/-- stairs in a tuple -/
def StairsAt (H : Hp) (a : Addr) (S : List (Int × Pat)) : Prop := ∃ as : List Addr, H a = some (.tup (as.map V.ref)) ∧ Paired (fun b (q : Int × Pat) => PatAt H b q.2) as S
theorem StairsAt.keep {H H' : Hp} {a : Addr} {S : List (Int × Pat)} (t : Tk H H') (h : StairsAt H a S) : StairsAt H' a S := by
  obtain ⟨as, h1, h2⟩ := h
  exact ⟨as, t _ _ h1, Paired.mapP h2 fun _ _ z => z.keep t⟩
section
variable {P : Program} {w : World} {K : PySem.W.Frag} {mg : Str → Option Value} {base : Heap}
/-! ### mixed -/
def spMixed : Sp := fun vs H Q _ => ∃ (p : Int) (o1 o2 : Addr) (R S : Pat) (n : Int), vs = [.int p, .int 0, .ref o1, .ref o2, .int 0, .int n] ∧ 0 < p ∧ Good p R ∧ Good p S ∧ OneAt H o1 R ∧ OneAt H o2 S ∧ -1000 ≤ n ∧ n ≤ 1000 ∧
  ∀ H' o T, Same H H' → Good p T → (∀ x, val T x = (val R x + val S x * n) % p) → OneAt H' o T → Q (.ref o) H'
theorem scMixed : FnScope ["p", "stride", "one", "other", "shift", "setting", "pattern", "maker"] ["p", "stride", "one", "other", "shift", "setting"] (defScope sMixed) := ⟨rfl, rfl, rfl, by decide +kernel, rfl, by decide +kernel, by decide +kernel⟩
theorem ok_mixed {f fA fT fM fS : Addr} {fd fdA fdT fdM fdS : FuncData} {k : Nat} (F : Fun K "mixed" "mixed" sMixed f fd)
    (GA : FnOk P w K mg base CX0 k fA fdA ["p", "one", "other"] spAdded) (GAM : FnOk P w K mg base CX0 k fA fdA ["p", "one", "other"] spAddedM) (AA : At K mg "added" sAdded ["p", "one", "other"] fA fdA)
    (GT : FnOk P w K mg base CX0 k fT fdT ["p", "pattern", "n"] spTimed) (GTM : FnOk P w K mg base CX0 k fT fdT ["p", "pattern", "n"] spTimedM) (AT : At K mg "timed" sTimed ["p", "pattern", "n"] fT fdT)
    (GM : FnOk P w K mg base CX0 k fM fdM ["pattern", "by"] spMoved) (AM : At K mg "moved" sMoved ["pattern", "by"] fM fdM)
    (GS : FnOk P w K mg base CX0 k fS fdS ["maker", "by"] spShifted) (AS : At K mg "shifted" sShifted ["maker", "by"] fS fdS) :
    FnOk P w K mg base CX0 (k + 1) f fd ["p", "stride", "one", "other", "shift", "setting"] spMixed := by
  refine F.ok scMixed (fun vs H Q E h => ?_) (fun cdv A outer s H vs Q E hr h => ?_)
  · obtain ⟨p, o1, o2, R, S, n, rfl, _⟩ := h
    rfl
  · obtain ⟨p, o1, o2, R, S, n, rfl, hp, gR, gS, ⟨p1, m1, M1, e1, P1, K1, k1⟩, ⟨p2, m2, M2, e2, P2, K2, k2⟩, n1, n2, q⟩ := h
    refine ⟨_, pss_cons (ps_set (i := 6) scMixed.nd rfl (.inl rfl) (pe_call GA hr (by rfl) AA.g AA.F.kp AA.b .nil pass0 (pa_cons (pv 0) (pa_cons (pe_ix ix_tup (pv 2) pe_int (fun _ _ => rfl)) (pa_cons
        (pe_call GT hr (by rfl) AT.g AT.F.kp AT.b .nil pass0 (pa_cons (pv 0) (pa_cons (pe_call GM hr (by rfl) AM.g AM.F.kp AM.b .nil pass0 (pa_cons (pe_ix ix_tup (pv 3) pe_int (fun _ _ => rfl)) (pa_cons (pe_op op_mul (pv 1) (pv 4)) pa_nil))) (pa_cons (pv 5) pa_nil)))) pa_nil)))))
      (pss_cons (ps_set (i := 7) scMixed.nd rfl (.inl rfl) (pe_call GAM hr (by rfl) AA.g AA.F.kp AA.b .nil pass0 (pa_cons (pv 0) (pa_cons (pe_ix ix_tup (pv 2) pe_int (fun _ _ => rfl)) (pa_cons
        (pe_call GTM hr (by rfl) AT.g AT.F.kp AT.b .nil pass0 (pa_cons (pv 0) (pa_cons (pe_call GS hr (by rfl) AS.g AS.F.kp AS.b .nil pass0 (pa_cons (pe_ix ix_tup (pv 3) pe_int (fun _ _ => rfl)) (pa_cons (pv 4) pa_nil))) (pa_cons (pv 5) pa_nil)))) pa_nil)))))
      (pss_one (ps_ret (pe_tup (pa_cons (pv 6) (pa_cons (pv 7) pa_nil)))))), ?_⟩
    -- pattern
    refine ⟨.int p, rfl, .ref o1, rfl, o1, _, 0, .ref p1, rfl, rfl, SqT.of e1, rfl, .int p, rfl, .ref o2, rfl, o2, _, 0, .ref p2, rfl, rfl, SqT.of e2, rfl, .int 0, rfl, .int 0, rfl, 0, 0, rfl, rfl, .inl (lt64 (by decide) (by decide)),
      p2, S, rfl, P2, by have := gS.len; omega, fun H1 c1 s1 hc1 => ?_⟩
    refine ⟨.int n, rfl, p, c1, S, n, rfl, hp, gS, hc1, n1, n2, fun H2 c2 T2 s2 g2 v2 hc2 => ?_⟩
    have s12 := s1.trans s2
    refine ⟨p, p1, c2, R, T2, rfl, hp, gR, g2, P1.same s12, hc2, fun H3 c3 T3 s3 g3 v3 hc3 => ?_⟩
    have s13 := s12.trans s3
    -- maker
    refine ⟨.int p, rfl, .ref o1, rfl, o1, _, 1, .ref m1, rfl, rfl, SqT.of (s13 _ _ e1), rfl, .int p, rfl, .ref o2, rfl, o2, _, 1, .ref m2, rfl, rfl, SqT.of (s13 _ _ e2), rfl, .int 0, rfl,
      m2, M2, rfl, K2.keep (Tk.same s13), k2, fun H4 c4 s4 hc4 => ?_⟩
    refine ⟨.int n, rfl, p, c4, M2, n, rfl, hp, k2, hc4, n1, n2, fun H5 c5 T5 s5 g5 hc5 => ?_⟩
    have s35 := s4.trans s5
    have s15 := s13.trans s35
    refine ⟨p, m1, c5, M1, T5, rfl, hp, k1, g5, K1.keep (Tk.same s15), hc5, fun H6 c6 T6 s6 g6 hc6 => ?_⟩
    have s36 := s35.trans s6
    refine ⟨.ref c3, rfl, .ref c6, rfl, le_line (by show 2 ≤ 1000000; decide), fun o no => ?_⟩
    have s7 := same_upd (o := .tup [.ref c3, .ref c6]) no
    refine q _ o T3 ((s13.trans s36).trans s7) g3 (fun x => by rw [v3, v2, Int.add_emod_emod]) ⟨c3, c6, T6, upd_same, hc3.same (s36.trans s7), hc6.keep (Tk.same s7), g6⟩

/-! ### normal -/
def spNormal : Sp := fun vs H Q _ => ∃ (p : Int) (o : Addr) (R : Pat), vs = [.int p, .int 0, .ref o] ∧ Pr p ∧ Good p R ∧ R ≠ [] ∧ OneAt H o R ∧
  ∀ H' o' T at_, Same H H' → Low R at_ → Lead p at_ T → (∃ c : Int, ∀ x, p ∣ val T x - c * val R x) → (∃ c : Int, ∀ x, p ∣ val R x - c * val T x) → OneAt H' o' T → Q (.ref o') H'
theorem scNormal : FnScope ["p", "stride", "one", "at", "places", "shift"] ["p", "stride", "one"] (defScope sNormal) := ⟨rfl, rfl, rfl, by decide +kernel, rfl, by decide +kernel, by decide +kernel⟩
theorem dvd_of_mod {p a b : Int} (h : a = b % p) : p ∣ a - b := by rw [h]; exact dvd_emod_sub
theorem ok_normal {p0 : Int} {f fF fP fM fI fS : Addr} {fd fdF fdP fdM fdI fdS : FuncData} {k : Nat} (F : Fun K "normal" "normal" sNormal f fd)
    (GF : FnOk P w K mg base CX0 k fF fdF ["stride", "pattern"] spFirst) (AF : At K mg "first_column" sFirst ["stride", "pattern"] fF fdF)
    (GP : ∀ p, FnOk P w K mg base CX0 k fP fdP ["stride", "pattern", "at"] (spPlaces p)) (AP : At K mg "places_in" sPlaces ["stride", "pattern", "at"] fP fdP)
    (GM : FnOk P w K mg base CX0 k fM fdM ["p", "stride", "one", "other", "shift", "setting"] spMixed) (AM : At K mg "mixed" sMixed ["p", "stride", "one", "other", "shift", "setting"] fM fdM)
    (GI : FnOk P w K mg base CX0 k fI fdI ["p", "setting"] spInv) (AI : At K mg "inverse" sInverse ["p", "setting"] fI fdI)
    (GS : FnOk P w K mg base CX0 k fS fdS ["pattern", "place"] spShows) (AS : At K mg "shows" sShows ["pattern", "place"] fS fdS) :
    FnOk P w K mg base CX0 (k + 1) f fd ["p", "stride", "one"] spNormal := by
  refine F.ok scNormal (fun vs H Q E h => ?_) (fun cdv A outer s H vs Q E hr h => ?_)
  · obtain ⟨p, o, R, rfl, _⟩ := h
    rfl
  · obtain ⟨p, o, R, rfl, hp, gR, hne, ⟨pa, ma, M, e1, P1, K1, k1⟩, q⟩ := h
    obtain ⟨at_, hlow⟩ := Low.of gR.can hne
    obtain ⟨v1, v2, v3⟩ := hlow.val gR.can
    have hlen := gR.len
    refine ⟨_, pss_cons (ps_set (i := 3) scNormal.nd rfl (.inl rfl) (pe_call GF hr (by rfl) AF.g AF.F.kp AF.b .nil pass0 (pa_cons (pv 1) (pa_cons (pe_ix ix_tup (pv 2) pe_int (fun _ _ => rfl)) pa_nil))))
      (pss_cons (ps_set (i := 4) scNormal.nd rfl (.inl rfl) (pe_call (GP p) hr (by rfl) AP.g AP.F.kp AP.b .nil pass0 (pa_cons (pv 1) (pa_cons (pe_ix ix_tup (pv 2) pe_int (fun _ _ => rfl)) (pa_cons (pv 3) pa_nil)))))
      (pss_cons (ps_set (i := 5) scNormal.nd rfl (.inl rfl) pe_int)
      (pss_cons (ps_if (pt_cmpR op_gt (pv 1) pe_int (nomark _)) pss_never pss_nil)
      (pss_one (ps_ret (pe_call GM hr (by rfl) AM.g AM.F.kp AM.b .nil pass0 (pa_cons (pv 0) (pa_cons (pv 1) (pa_cons (pe_tup (pa_cons (pe_tup pa_nil) (pa_cons (pe_tup pa_nil) pa_nil))) (pa_cons (pv 2) (pa_cons (pv 5) (pa_cons
        (pe_call GI hr (by rfl) AI.g AI.F.kp AI.b .nil pass0 (pa_cons (pv 0) (pa_cons (pe_call GS hr (by rfl) AS.g AS.F.kp AS.b .nil pass0 (pa_cons (pe_ix ix_tup (pv 2) pe_int (fun _ _ => rfl)) (pa_cons (pe_ix ix_list (pv 4) (pe_un un_neg pe_int) (fun _ _ => rfl)) pa_nil))) pa_nil))) pa_nil)))))))))))), ?_⟩
    refine ⟨.int 0, rfl, .ref o, rfl, o, _, 0, .ref pa, rfl, rfl, SqT.of e1, rfl, pa, R, at_, rfl, P1, hlow, by omega, fun H1 s1 => ?_⟩
    refine ⟨.int 0, rfl, .ref o, rfl, o, _, 0, .ref pa, rfl, rfl, SqT.of (s1 _ _ e1), rfl, .int at_, rfl, pa, R, at_, rfl, P1.same s1, by omega, gR.can, fun H2 l s2 hl => ?_⟩
    rw [if_neg (show ¬ val R at_ = 0 by omega)] at hl
    have hl : H2 l = some (.lst [.int at_]) := hl
    have s12 := s1.trans s2
    refine ⟨.int 0, rfl, _, _, rfl, rfl, _, rfl, ite2 (fun c => absurd (of_decide_eq_true c) (by decide)) (fun _ => ?_)⟩
    refine ⟨.int p, rfl, .int 0, rfl, Nat.zero_le _, fun t1 nt1 => ⟨Nat.zero_le _, fun t2 nt2 => ⟨le_line (by show 2 ≤ 1000000; decide), fun t nt => ?_⟩⟩⟩
    have s3 : Same H2 (upd (upd (upd H2 t1 (.tup [])) t2 (.tup [])) t (.tup [.ref t1, .ref t2])) := ((same_upd nt1).trans (same_upd nt2)).trans (same_upd nt)
    have n1t : t1 ≠ t := ne_of_none ((same_upd nt2) t1 _ upd_same) nt
    have n2t : t2 ≠ t := ne_of_none (H := upd (upd H2 t1 (.tup [])) t2 (.tup [])) upd_same nt
    have n12 : t1 ≠ t2 := ne_of_none (H := upd H2 t1 (.tup [])) upd_same nt2
    have a1 : (upd (upd (upd H2 t1 (.tup [])) t2 (.tup [])) t (.tup [.ref t1, .ref t2])) t1 = some (.tup []) := by rw [upd_ne n1t, upd_ne n12, upd_same]
    have a2 : (upd (upd (upd H2 t1 (.tup [])) t2 (.tup [])) t (.tup [.ref t1, .ref t2])) t2 = some (.tup []) := by rw [upd_ne n2t, upd_same]
    generalize hH3 : upd (upd (upd H2 t1 (.tup [])) t2 (.tup [])) t (.tup [.ref t1, .ref t2]) = H3 at s3 a1 a2
    have a3 : H3 t = some (.tup [.ref t1, .ref t2]) := by rw [← hH3, upd_same]
    have s13 := s12.trans s3
    refine ⟨.ref o, rfl, .int 0, rfl, .int p, rfl, .ref o, rfl, o, [.ref pa, .ref ma], 0, .ref pa, rfl, rfl, SqT.of ?_, rfl, .ref l, rfl, 1, rfl, l, [.int at_], -1, .int at_, rfl, rfl, SqL.of ?_, rfl,
      pa, R, at_, rfl, ?_, p, val R at_, rfl, hp, v1, v2, fun r r1 r2 r3 => ?_⟩
    · exact s13 _ _ e1
    · exact s3 _ _ hl
    · exact P1.same s13
    refine ⟨p, t, o, [], R, r, rfl, hp.pos, Good.nil, gR, ⟨t1, t2, [], a3, ⟨[], a1, .nil⟩, ⟨[], a2, .nil⟩, MkOK.nil⟩, ⟨pa, ma, M, s13 _ _ e1, P1.same s13, K1.keep (Tk.same s13), k1⟩, by omega, by rcases hp with e | e | e <;> omega, fun H4 o4 T s4 g4 v4 hT => ?_⟩
    have hv : ∀ x, val T x = (val R x * r) % p := fun x => by
      rw [v4]
      show (0 + val R x * r) % p = _
      rw [Int.zero_add]
    refine q H4 o4 T at_ (s13.trans s4) hlow ⟨g4.can, g4.bd, ?_, fun x hx => ?_⟩ ⟨r, fun x => ?_⟩ ⟨val R at_, fun x => ?_⟩ hT
    · rw [hv, Int.mul_comm]; exact r3
    · rw [hv, v3 x hx, Int.zero_mul]; exact Int.zero_emod p
    · rw [Int.mul_comm r]; exact dvd_of_mod (hv x)
    · -- R = s (r R)
      have h1 : p ∣ val T x - val R x * r := dvd_of_mod (hv x)
      have h2 : p ∣ 1 - r * val R at_ := by
        have := dvd_emod_sub (p := p) (a := r * val R at_)
        rw [r3] at this
        exact this
      have e : val R x - val R at_ * val T x = (1 - r * val R at_) * val R x - val R at_ * (val T x - val R x * r) := by
        rw [Int.sub_mul, Int.mul_sub, Int.one_mul]
        have e1 : r * val R at_ * val R x = val R at_ * (val R x * r) := by
          rw [Int.mul_comm r, Int.mul_assoc, Int.mul_comm r]
        omega
      rw [e]
      exact Int.dvd_sub (Int.dvd_mul_of_dvd_left h2) (Int.dvd_mul_of_dvd_right h1)
end
end D24
set_option Elab.async false
set_option linter.all false
set_option maxRecDepth 100000
set_option maxHeartbeats 4000000
/-! lowered, parts_of, taken, rest_of. -/
namespace D24
open PySem PySem.Spec PyProof.Rows L2
theorem mod_lin {p a b c : Int} : (a + b * -c) % p = (a - c * b) % p := by
  rw [Int.mul_neg, Int.mul_comm b c]
  rfl
section
variable {P : Program} {w : World} {K : PySem.W.Frag} {mg : Str → Option Value} {base : Heap}
/-! ### lowered -/
def spLow : Sp := fun vs H Q _ => ∃ (p : Int) (o1 o2 : Addr) (S : Pat) (at_ : Int) (R : Pat), vs = [.int p, .int 0, .ref o1, .ref o2] ∧ Pr p ∧ Lead p at_ S ∧ Good p R ∧ OneAt H o1 S ∧ OneAt H o2 R ∧
  ∀ H' o T, Same H H' → Good p T → (∀ x, val T x = (val R x - val R at_ * val S x) % p) → OneAt H' o T → Q (.ref o) H'
theorem scLow : FnScope ["p", "stride", "stair", "one", "at", "size", "bottom", "places", "place", "setting", "shift"] ["p", "stride", "stair", "one"] (defScope sLowered) := ⟨rfl, rfl, rfl, by decide +kernel, rfl, by decide +kernel, by decide +kernel⟩
theorem ok_low {f fF fL fI fS fMi fM : Addr} {fd fdF fdL fdI fdS fdMi fdM : FuncData} {k : Nat} (F : Fun K "lowered" "lowered" sLowered f fd)
    (GF : FnOk P w K mg base CX0 k fF fdF ["stride", "pattern"] spFirst) (AF : At K mg "first_column" sFirst ["stride", "pattern"] fF fdF)
    (GL : FnOk P w K mg base CX0 k fL fdL ["stride", "pattern"] spLen) (AL : At K mg "length" sLength ["stride", "pattern"] fL fdL)
    (GI : FnOk P w K mg base CX0 k fI fdI ["p", "setting"] spInv) (AI : At K mg "inverse" sInverse ["p", "setting"] fI fdI)
    (GS : FnOk P w K mg base CX0 k fS fdS ["pattern", "place"] spShows) (AS : At K mg "shows" sShows ["pattern", "place"] fS fdS)
    (GMi : ∀ p, FnOk P w K mg base CX0 k fMi fdMi ["stride", "stair", "pattern"] (spMis p)) (AMi : At K mg "misplaced" sMis ["stride", "stair", "pattern"] fMi fdMi)
    (GM : FnOk P w K mg base CX0 k fM fdM ["p", "stride", "one", "other", "shift", "setting"] spMixed) (AM : At K mg "mixed" sMixed ["p", "stride", "one", "other", "shift", "setting"] fM fdM) (ml : mg "len" = none) :
    FnOk P w K mg base CX0 (k + 1) f fd ["p", "stride", "stair", "one"] spLow := by
  refine F.ok scLow (fun vs H Q E h => ?_) (fun cdv A outer s H vs Q E hr h => ?_)
  · obtain ⟨p, o1, o2, S, at_, R, rfl, _⟩ := h
    rfl
  · obtain ⟨p, o1, o2, S, at_, R, rfl, hp, lS, gR, ⟨pa, ma, M, e1, P1, K1, k1⟩, hR, q⟩ := h
    have gS := lS.good
    have hSl := gS.len
    have hRl := gR.len
    have hlow := lS.lowp
    have hp0 := hp.pos
    refine ⟨_, pss_cons (ps_set (i := 4) scLow.nd rfl (.inl rfl) (pe_call GF hr (by rfl) AF.g AF.F.kp AF.b .nil pass0 (pa_cons (pv 1) (pa_cons (pe_ix ix_tup (pv 2) pe_int (fun _ _ => rfl)) pa_nil))))
      (pss_cons (ps_set (i := 5) scLow.nd rfl (.inl rfl) (pe_call GL hr (by rfl) AL.g AL.F.kp AL.b .nil pass0 (pa_cons (pv 1) (pa_cons (pe_ix ix_tup (pv 2) pe_int (fun _ _ => rfl)) pa_nil))))
      (pss_cons (ps_set (i := 6) scLow.nd rfl (.inl rfl) (pe_call GI hr (by rfl) AI.g AI.F.kp AI.b .nil pass0 (pa_cons (pv 0) (pa_cons (pe_call GS hr (by rfl) AS.g AS.F.kp AS.b .nil pass0 (pa_cons (pe_ix ix_tup (pv 2) pe_int (fun _ _ => rfl)) (pa_cons (pv 4) pa_nil))) pa_nil))))
      (pss_cons (ps_set (i := 7) scLow.nd rfl (.inl rfl) (pe_call (GMi p) hr (by rfl) AMi.g AMi.F.kp AMi.b .nil pass0 (pa_cons (pv 1) (pa_cons (pe_ix ix_tup (pv 2) pe_int (fun _ _ => rfl)) (pa_cons (pe_ix ix_tup (pv 3) pe_int (fun _ _ => rfl)) pa_nil)))))
      (pss_cons (ps_while PassesOwn.never (pt_cmpR op_gt (pe_callB call_len_seq (by rfl) ml PySem.boot_len (pa_cons (pv 7) pa_nil)) pe_int (nomark _))
        (pss_cons (ps_set (i := 8) scLow.nd rfl (.inl rfl) (pe_ix ix_list (pv 7) pe_int (fun _ _ => rfl)))
        (pss_cons (ps_set (i := 9) scLow.nd rfl (.inl rfl) (pe_call GS hr (by rfl) AS.g AS.F.kp AS.b .nil pass0 (pa_cons (pe_ix ix_tup (pv 3) pe_int (fun _ _ => rfl)) (pa_cons (pv 8) pa_nil))))
        (pss_cons (ps_set (i := 10) scLow.nd rfl (.inl rfl) pe_int)
        (pss_cons (ps_if (pt_cmpR op_gt (pv 1) pe_int (nomark _)) pss_never pss_nil)
        (pss_cons (ps_if (pt_cmpR op_gt (pv 8) (pv 4) (nomark _)) pss_never pss_nil)
        (pss_cons (ps_if (pt_cmpR op_lt (pv 8) (pv 4) (nomark _)) pss_never pss_nil)
        (pss_cons (ps_set (i := 3) scLow.nd rfl (.inl rfl) (pe_call GM hr (by rfl) AM.g AM.F.kp AM.b .nil pass0 (pa_cons (pv 0) (pa_cons (pv 1) (pa_cons (pv 3) (pa_cons (pv 2) (pa_cons (pv 10) (pa_cons (pe_un un_neg (pv 9)) pa_nil))))))))
        (pss_one (ps_set (i := 7) scLow.nd rfl (.inl rfl) (pe_call (GMi p) hr (by rfl) AMi.g AMi.F.kp AMi.b .nil pass0 (pa_cons (pv 1) (pa_cons (pe_ix ix_tup (pv 2) pe_int (fun _ _ => rfl)) (pa_cons (pe_ix ix_tup (pv 3) pe_int (fun _ _ => rfl)) pa_nil))))))))))))))
      (pss_one (ps_ret (pv 3))))))), ?_⟩
    obtain ⟨pr, mr, MR, er, Pr_, Kr, kr⟩ := id hR
    -- at, size, bottom, places
    refine ⟨.int 0, rfl, .ref o1, rfl, o1, _, 0, .ref pa, rfl, rfl, SqT.of e1, rfl, pa, S, at_, rfl, P1, hlow, by omega, fun H1 s1 => ?_⟩
    refine ⟨.int 0, rfl, .ref o1, rfl, o1, _, 0, .ref pa, rfl, rfl, SqT.of (s1 _ _ e1), rfl, .ref pa, rfl, ?_⟩
    refine ⟨.int p, rfl, .ref o1, rfl, o1, _, 0, .ref pa, rfl, rfl, SqT.of (s1 _ _ e1), rfl, .int at_, rfl, pa, S, at_, rfl, P1.same s1, p, val S at_, rfl, hp, by rw [lS.one]; decide, by rw [lS.one]; rcases hp with e | e | e <;> omega, fun bt b1 b2 b3 => ?_⟩
    refine ⟨.int 0, rfl, .ref o1, rfl, o1, _, 0, .ref pa, rfl, rfl, SqT.of (s1 _ _ e1), rfl, .ref o2, rfl, o2, _, 0, .ref pr, rfl, rfl, SqT.of (s1 _ _ er), rfl, pa, pr, S, R, at_, rfl, P1.same s1, hlow, by omega, Pr_.same s1, by omega, gR.can, fun H2 l0 s2 hl0 => ?_⟩
    have s12 := s1.trans s2
    refine ⟨fun m σ H3 => ∃ (o : Addr) (T : Pat) (l : Addr) (v8 v9 v10 : Option V), σ = [some (.int p), some (.int 0), some (.ref o1), some (.ref o), some (.int at_), some (.int 0), some (.int bt), some (.ref l), v8, v9, v10] ∧ Same H H3 ∧ Good p T ∧ OneAt H3 o T ∧
        H3 l = some (.lst ((if val T at_ = 0 then [] else [at_]).map V.int)) ∧ (T = R ∨ (val T at_ = 0 ∧ ∀ x, val T x = (val R x - val R at_ * val S x) % p)) ∧ (m = 0 → val T at_ = 0),
      ⟨1, o2, R, l0, none, none, none, rfl, s12, gR, hR.keep (Tk.same s12), hl0, .inl rfl, fun z => absurd z (by decide)⟩, ?_⟩
    rintro m σ H3 ⟨o, T, l, v8, v9, v10, rfl, s3, gT, hT, hl, hcase, hm⟩
    by_cases e : val T at_ = 0
    · rw [if_pos e] at hl
      refine ⟨.ref l, rfl, l, [], rfl, .inl (SqL.of hl), _, _, rfl, rfl, _, rfl, ite2 (fun c => absurd (of_decide_eq_true c) (by decide)) (fun _ => ?_)⟩
      refine ⟨.ref o, rfl, q H3 o T s3 gT (fun x => ?_) hT⟩
      rcases hcase with z | ⟨_, z⟩
      · rw [← z, e, Int.zero_mul, Int.sub_zero, canon_mod hp0 gT.can]
      · exact z x
    · have hTR : T = R := by
        rcases hcase with z | ⟨z, _⟩
        · exact z
        · exact absurd z e
      subst hTR
      rw [if_neg e] at hl
      have hl : H3 l = some (.lst [.int at_]) := hl
      refine ⟨.ref l, rfl, l, [.int at_], rfl, .inl (SqL.of hl), _, _, rfl, rfl, _, rfl, ite2 (fun c => ?_) (fun c => absurd (decide_eq_true (by show (0 : Int) < ((1 : Nat) : Int); decide)) c)⟩
      obtain ⟨pt, mt, MT, et, Pt, Kt, kt⟩ := id hT
      have rg := canon_range hp0 gT.can at_
      have p5 : p ≤ 5 := by rcases hp with z | z | z <;> omega
      refine ⟨fun σ' H' => ∃ (o : Addr) (T' : Pat) (l : Addr) (v8 v9 v10 : Option V), σ' = [some (.int p), some (.int 0), some (.ref o1), some (.ref o), some (.int at_), some (.int 0), some (.int bt), some (.ref l), v8, v9, v10] ∧ Same H H' ∧ Good p T' ∧ OneAt H' o T' ∧
        H' l = some (.lst ((if val T' at_ = 0 then [] else [at_]).map V.int)) ∧ val T' at_ = 0 ∧ ∀ x, val T' x = (val T x - val T at_ * val S x) % p, ?_, ?_⟩
      · rintro σ' H' ⟨o', T', l', w8, w9, w10, a1, a2, a3, a4, a5, a6, a7⟩
        refine ⟨0, ?_, o', T', l', w8, w9, w10, a1, a2, a3, a4, a5, .inr ⟨a6, a7⟩, fun _ => a6⟩
        cases m with
        | zero => exact absurd (hm rfl) e
        | succ m => exact Nat.succ_pos m
      · -- the turn
        refine ⟨.ref l, rfl, l, [.int at_], 0, .int at_, rfl, rfl, SqL.of hl, rfl, ?_⟩
        refine ⟨.ref o, rfl, o, _, 0, .ref pt, rfl, rfl, SqT.of et, rfl, .int at_, rfl, pt, T, at_, rfl, Pt, ?_⟩
        refine ⟨.int 0, rfl, _, _, rfl, rfl, _, rfl, ite2 (fun c => absurd (of_decide_eq_true c) (by decide)) (fun _ => ?_)⟩
        refine ⟨.int at_, rfl, .int at_, rfl, _, _, rfl, rfl, _, rfl, ite2 (fun c => absurd (of_decide_eq_true c) (by omega)) (fun _ => ?_)⟩
        refine ⟨.int at_, rfl, .int at_, rfl, _, _, rfl, rfl, _, rfl, ite2 (fun c => absurd (of_decide_eq_true c) (by omega)) (fun _ => ?_)⟩
        refine ⟨.int p, rfl, .int 0, rfl, .ref o, rfl, .ref o1, rfl, .int 0, rfl, .int (val T at_), rfl, _, rfl, p, o, o1, T, S, -val T at_, rfl, hp0, gT, gS, hT, ⟨pa, ma, M, s3 _ _ e1, P1.same s3, K1.keep (Tk.same s3), k1⟩, by omega, by omega, fun H4 o4 T4 s4 g4 v4 hT4 => ?_⟩
        have s34 := s3.trans s4
        obtain ⟨p4, m4, M4, e4, P4, K4, k4⟩ := id hT4
        have hv : ∀ x, val T4 x = (val T x - val T at_ * val S x) % p := fun x => by rw [v4, mod_lin]
        have h0 : val T4 at_ = 0 := by
          rw [hv, lS.one, Int.mul_one, Int.sub_self]
          exact Int.zero_emod p
        refine ⟨.int 0, rfl, .ref o1, rfl, o1, _, 0, .ref pa, rfl, rfl, SqT.of (s34 _ _ e1), rfl, .ref o4, rfl, o4, _, 0, .ref p4, rfl, rfl, SqT.of e4, rfl, pa, p4, S, T4, at_, rfl, P1.same s34, hlow, by omega, P4, by have := g4.len; omega, g4.can, fun H5 l5 s5 hl5 => ?_⟩
        exact ⟨o4, T4, l5, _, _, _, rfl, s34.trans s5, g4, hT4.keep (Tk.same s5), hl5, h0, hv⟩

/-! ### parts_of -/
def spParts : Sp := fun vs H Q _ => ∃ (a : Addr) (M : Mak), vs = [.ref a] ∧ MakAt H a M ∧ M.length ≤ 100 ∧ ∀ H' l, Same H H' → Q (.ref l) H'
theorem scParts : FnScope ["maker", "which", "shift", "setting"] ["maker"] (defScope sParts) := ⟨rfl, rfl, rfl, by decide +kernel, rfl, by decide +kernel, by decide +kernel⟩
theorem ok_parts {f : Addr} {fd : FuncData} {k : Nat} (F : Fun K "parts_of" "parts_of" sParts f fd) : FnOk P w K mg base CX0 (k + 1) f fd ["maker"] spParts := by
  refine F.ok scParts (fun vs H Q E h => ?_) (fun cdv A outer s H vs Q E hr h => ?_)
  · obtain ⟨a, M, rfl, _⟩ := h
    rfl
  · obtain ⟨a, M, rfl, ⟨as, ha, hM⟩, hlen, q⟩ := h
    refine ⟨_, pss_one (ps_ret
      (pe_lc (own := [("which", 1), ("shift", 2), ("setting", 3)]) (g := gTup K 2 (gCons (gTup K 2 (gCons (gName 1) (gCons (gName 2) gNil))) (gCons (gName 3) gNil))) rfl scParts.nd (pi_tup (pv 0)) (blkOk_by (N := ["maker", "which", "shift", "setting"]) (sc := defScope sParts) (by decide +kernel))
        (fun _ _ _ _ _ => pg_tup rfl (pgs_cons (pg_tup rfl (pgs_cons (pg_name (i := 1) scParts.nd rfl (.inl rfl)) (pgs_cons (pg_name (i := 2) scParts.nd rfl (.inl rfl)) pgs_nil))) (pgs_cons (pg_name (i := 3) scParts.nd rfl (.inl rfl)) pgs_nil))) (fun _ _ _ _ _ => pts_nil)
        (fun _ _ _ _ _ => pe_tup (pa_cons (pv 1) (pa_cons (pv 2) (pa_cons (pv 3) pa_nil)))))), ?_⟩
    refine ⟨.ref a, rfl, a, rfl, ⟨_, SqT.of ha⟩, fun D nD => lc_tup (K := K) (a := a) (xs := as.map V.ref) (fun i H1 => ∃ bs : List V, Same H H1 ∧ H1 D = some (.lst bs) ∧ bs.length = (M.take i).length)
      ⟨[], same_upd nD, upd_same, rfl⟩ (fun i H1 _ ⟨_, s1, _⟩ => SqT.of (s1 _ _ ha)) ?_ ?_⟩
    · rintro i x H1 hx ⟨bs, s1, hD, pb⟩
      obtain ⟨b, hb, rfl⟩ := ref_at hx
      obtain ⟨r, hr', kt, pr, pk⟩ := paired_at hM hb
      refine ⟨b, [.ref kt, .int r.2], rfl, SqT.of (s1 _ _ pr), rfl, _, _, rfl, kt, [.int r.1.1, .int r.1.2], rfl, SqT.of (s1 _ _ pk), rfl, _, _, rfl, _, _, rfl, rfl, _, _, rfl, rfl, rfl,
        .int r.1.1, rfl, .int r.1.2, rfl, .int r.2, rfl, le_line (by show 3 ≤ 1000000; decide), fun t nt => ?_⟩
      have nDt : D ≠ t := ne_of_none hD nt
      refine ⟨bs, by rw [upd_ne nDt]; exact hD, ?_, _, same_put (s1.trans (same_upd nt)) nD, upd_same, ?_⟩
      · rw [pb, List.length_take]
        exact lt_line (by omega)
      · rw [take_snoc hr', List.length_append, List.length_append, pb]
        rfl
    · rintro H1 ⟨bs, s1, hD, pb⟩
      exact q _ D s1

/-! ### taken, rest_of -/
def spTaken : Sp := fun vs H Q _ => ∃ (p : Int) (a b : Addr) (S : List (Int × Pat)) (R : Pat), vs = [.int p, .int 0, .ref a, .ref b] ∧ Pr p ∧ SEch p S ∧ StairsAt H a S ∧ Good p R ∧ PatAt H b R ∧
  ∀ H' t T pr (l : Addr), Same H H' → Good p T → InSp p (S.map (·.2)) (fun x => val R x - val T x) → (∀ q ∈ S, val T q.1 = 0) → H' t = some (.tup [.ref pr, .ref l]) → PatAt H' pr T → Q (.ref t) H'
theorem scTaken : FnScope ["p", "stride", "stairs", "pattern", "one", "k"] ["p", "stride", "stairs", "pattern"] (defScope sTaken) := ⟨rfl, rfl, rfl, by decide +kernel, rfl, by decide +kernel, by decide +kernel⟩
theorem SEch.rise : ∀ {p : Int} {S : List (Int × Pat)}, SEch p S → ∀ {i j : Nat} {q r : Int × Pat}, i < j → S[i]? = some q → S[j]? = some r → q.1 < r.1 := by
  intro p S h
  induction h with
  | nil => intro i j q r _ e; simp at e
  | @cons a v S l hl hr ih =>
    intro i j q r hij e1 e2
    cases j with
    | zero => exact absurd hij (Nat.not_lt_zero _)
    | succ j =>
      cases i with
      | zero =>
        have e : (a, v) = q := by simpa using e1
        rw [← e]
        exact hl r (List.mem_of_getElem? (by simpa using e2))
      | succ i => exact ih (Nat.lt_of_succ_lt_succ hij) (by simpa using e1) (by simpa using e2)
theorem ok_taken {fL fT fPa : Addr} {f : Addr} {fd fdL fdT fdPa : FuncData} {k : Nat} (F : Fun K "taken" "taken" sTaken f fd)
    (GL : FnOk P w K mg base CX0 k fL fdL ["p", "stride", "stair", "one"] spLow) (AL : At K mg "lowered" sLowered ["p", "stride", "stair", "one"] fL fdL)
    (GTM : FnOk P w K mg base CX0 k fT fdT ["p", "pattern", "n"] spTimedM) (AT : At K mg "timed" sTimed ["p", "pattern", "n"] fT fdT)
    (GPa : FnOk P w K mg base CX0 k fPa fdPa ["maker"] spParts) (APa : At K mg "parts_of" sParts ["maker"] fPa fdPa) (ml : mg "len" = none) (m1 : mg "range" = none) :
    FnOk P w K mg base CX0 (k + 1) f fd ["p", "stride", "stairs", "pattern"] spTaken := by
  refine F.ok scTaken (fun vs H Q E h => ?_) (fun cdv A outer s H vs Q E hr h => ?_)
  · obtain ⟨p, a, b, S, R, rfl, _⟩ := h
    rfl
  · obtain ⟨p, a, b, S, R, rfl, hp, hS, ⟨as, ha, has⟩, gR, hb, q⟩ := h
    have hSl := hS.len
    have el := paired_len has
    refine ⟨_, pss_cons (ps_set (i := 4) scTaken.nd rfl (.inl rfl) (pe_tup (pa_cons (pv 3) (pa_cons (pe_tup pa_nil) pa_nil))))
      (pss_cons (ps_for PassesOwn.never rfl (pi_range1 (by rfl) m1 (pa_cons (pe_callB call_len_seq (by rfl) ml PySem.boot_len (pa_cons (pv 2) pa_nil)) pa_nil)) (pg_name (i := 5) scTaken.nd rfl (.inl rfl))
        (pss_one (ps_set (i := 4) scTaken.nd rfl (.inl rfl) (pe_call GL hr (by rfl) AL.g AL.F.kp AL.b .nil pass0 (pa_cons (pv 0) (pa_cons (pv 1) (pa_cons
          (pe_tup (pa_cons (pe_ix ix_tup (pv 2) (pv 5) (fun _ _ => rfl)) (pa_cons (pe_tup (pa_cons (pe_tup (pa_cons (pe_tup (pa_cons (pv 5) (pa_cons pe_int pa_nil))) (pa_cons pe_int pa_nil))) pa_nil)) pa_nil))) (pa_cons (pv 4) pa_nil))))))))
      (pss_one (ps_ret (pe_tup (pa_cons (pe_ix ix_tup (pv 4) pe_int (fun _ _ => rfl)) (pa_cons (pe_call GPa hr (by rfl) APa.g APa.F.kp APa.b .nil pass0 (pa_cons
        (pe_call GTM hr (by rfl) AT.g AT.F.kp AT.b .nil pass0 (pa_cons (pv 0) (pa_cons (pe_ix ix_tup (pv 4) pe_int (fun _ _ => rfl)) (pa_cons (pe_un un_neg pe_int) pa_nil)))) pa_nil)) pa_nil)))))), ?_⟩
    -- one = (pattern, ())
    refine ⟨.ref b, rfl, Nat.zero_le _, fun t1 nt1 => ⟨le_line (by show 2 ≤ 1000000; decide), fun t nt => ?_⟩⟩
    have s1 : Same H (upd (upd H t1 (.tup [])) t (.tup [.ref b, .ref t1])) := (same_upd nt1).trans (same_upd nt)
    have n1t : t1 ≠ t := ne_of_none (H := upd H t1 (.tup [])) upd_same nt
    have hone : OneAt (upd (upd H t1 (.tup [])) t (.tup [.ref b, .ref t1])) t R := ⟨b, t1, [], upd_same, hb.same s1, ⟨[], by rw [upd_ne n1t, upd_same]; rfl, .nil⟩, MkOK.nil⟩
    generalize upd (upd H t1 (.tup [])) t (.tup [.ref b, .ref t1]) = H1 at s1 hone
    refine ⟨.ref a, rfl, a, _, rfl, .inr (SqT.of (s1 _ _ ha)), as.length, by rw [List.length_map], by omega, by omega, for_range (lo := 0) (n := as.length) (fun i σ H2 => ∃ (o : Addr) (T : Pat) (v5 : Option V), σ = [some (.int p), some (.int 0), some (.ref a), some (.ref b), some (.ref o), v5] ∧ Same H H2 ∧ Good p T ∧ OneAt H2 o T ∧
        InSp p (S.map (·.2)) (fun x => val R x - val T x) ∧ ∀ q ∈ S.take i, val T q.1 = 0)
      ⟨t, R, none, rfl, s1, gR, hone, InSp.of_dvd fun x => by rw [Int.sub_self]; exact Int.dvd_zero _, fun _ h => nomatch h⟩ ?_ ?_⟩
    · rintro i σ H2 hi ⟨o, T, v5, rfl, s2, gT, hT, hsp, hz⟩
      obtain ⟨c, hc⟩ : ∃ c, as[i]? = some c := ⟨as[i], List.getElem?_eq_getElem hi⟩
      obtain ⟨r, hr', pc⟩ := paired_at has hc
      have lr := hS.lead r (List.mem_of_getElem? hr')
      have hat : atI (as.map V.ref) (0 + (i : Int)) = some (.ref c) := by
        rw [Int.zero_add]
        exact atI_nat (by rw [List.getElem?_map, hc]; rfl)
      refine ⟨.int p, rfl, .int 0, rfl, .ref a, rfl, .int (0 + (i : Int)), rfl, a, _, _, .ref c, rfl, rfl, SqT.of (s2 _ _ ha), hat, .int (0 + (i : Int)), rfl, le_line (by show 2 ≤ 1000000; decide), fun k1 nk1 => ⟨le_line (by show 2 ≤ 1000000; decide), fun k2 nk2 =>
        ⟨le_line (by show 1 ≤ 1000000; decide), fun k3 nk3 => ⟨le_line (by show 2 ≤ 1000000; decide), fun k4 nk4 => ?_⟩⟩⟩⟩
      have q1 := same_upd (o := .tup [.int (0 + (i : Int)), .int 0]) nk1
      have q2 := same_upd (o := .tup [.ref k1, .int 1]) nk2
      have q3 := same_upd (o := .tup [.ref k2]) nk3
      have q4 := same_upd (o := .tup [.ref c, .ref k3]) nk4
      have s4 := ((q1.trans q2).trans q3).trans q4
      have hst : OneAt (upd (upd (upd (upd H2 k1 (.tup [.int (0 + (i : Int)), .int 0])) k2 (.tup [.ref k1, .int 1])) k3 (.tup [.ref k2])) k4 (.tup [.ref c, .ref k3])) k4 r.2 := by
        refine ⟨c, k3, [((0 + (i : Int), 0), 1)], upd_same, pc.same (s2.trans s4), ⟨[k2], q4 _ _ upd_same, .cons ⟨k1, q4 _ _ (q3 _ _ upd_same), q4 _ _ (q3 _ _ (q2 _ _ upd_same))⟩ .nil⟩, ⟨by simp, fun z hz' => ?_⟩⟩
        rw [List.mem_singleton.mp hz']
        exact ⟨by show (0 : Int) ≤ 0 + (i : Int); omega, by show 0 + (i : Int) < 16; omega, rfl⟩
      refine ⟨.ref o, rfl, p, k4, o, r.2, r.1, T, rfl, hp, lr, gT, hst, hT.keep (Tk.same s4), fun H5 o5 T5 s5 g5 v5' hT5 => ?_⟩
      refine ⟨o5, T5, _, rfl, (s2.trans s4).trans s5, g5, hT5, ?_, fun z hz' => ?_⟩
      · have m1 : InSp p (S.map (·.2)) (fun x => val T r.1 * val r.2 x) := (InSp.mem (List.mem_map.mpr ⟨r, List.mem_of_getElem? hr', rfl⟩)).smul _
        refine InSp.congr (fun x => ?_) (hsp.add m1)
        rw [v5', show val R x - val T x + val T r.1 * val r.2 x - (val R x - (val T x - val T r.1 * val r.2 x) % p) = (val T x - val T r.1 * val r.2 x) % p - (val T x - val T r.1 * val r.2 x) by omega]
        exact dvd_emod_sub
      · rw [v5']
        rw [take_snoc hr'] at hz'
        rcases List.mem_append.mp hz' with y | y
        · obtain ⟨j, hj⟩ := List.mem_iff_getElem?.mp y
          have hji : j < i := by
            have := (List.getElem?_eq_some_iff.mp hj).1
            rw [List.length_take] at this
            omega
          have hj2 : S[j]? = some z := by
            rw [List.getElem?_take_of_lt hji] at hj
            exact hj
          have hlt := hS.rise hji hj2 hr'
          rw [hz z y, lr.low z.1 hlt, Int.mul_zero]
          exact Int.zero_emod p
        · rw [List.mem_singleton.mp y, lr.one, Int.mul_one, Int.sub_self]
          exact Int.zero_emod p
    · rintro σ H2 ⟨o, T, v5, rfl, s2, gT, ⟨po, mo, M, e1, P1, K1, k1⟩, hsp, hz⟩
      rw [el, List.take_length] at hz
      refine ⟨.ref o, rfl, o, _, 0, .ref po, rfl, rfl, SqT.of e1, rfl, .int p, rfl, .ref o, rfl, o, _, 1, .ref mo, rfl, rfl, SqT.of e1, rfl, 1, rfl, p, mo, M, -1, rfl, hp.pos, k1, K1, by decide, by decide, fun H3 c T3 s3 g3 h3 => ?_⟩
      refine ⟨c, T3, rfl, h3, by have := g3.len; omega, fun H4 l s4 => ?_⟩
      refine ⟨le_line (by show 2 ≤ 1000000; decide), fun t nt => ?_⟩
      have s24 := s3.trans (s4.trans (same_upd (o := .tup [.ref po, .ref l]) nt))
      exact q _ t T po l (s2.trans s24) gT hsp hz upd_same (P1.same s24)
def spRest : Sp := fun vs H Q _ => ∃ (p : Int) (a b : Addr) (S : List (Int × Pat)) (R : Pat), vs = [.int p, .int 0, .ref a, .ref b] ∧ Pr p ∧ SEch p S ∧ StairsAt H a S ∧ Good p R ∧ PatAt H b R ∧
  ∀ H' c T, Same H H' → Good p T → InSp p (S.map (·.2)) (fun x => val R x - val T x) → (∀ q ∈ S, val T q.1 = 0) → PatAt H' c T → Q (.ref c) H'
theorem scRest : FnScope ["p", "stride", "stairs", "pattern"] ["p", "stride", "stairs", "pattern"] (defScope sRest) := ⟨rfl, rfl, rfl, by decide +kernel, rfl, by decide +kernel, by decide +kernel⟩
theorem ok_rest {f fT : Addr} {fd fdT : FuncData} {k : Nat} (F : Fun K "rest_of" "rest_of" sRest f fd) (GT : FnOk P w K mg base CX0 k fT fdT ["p", "stride", "stairs", "pattern"] spTaken) (AT : At K mg "taken" sTaken ["p", "stride", "stairs", "pattern"] fT fdT) :
    FnOk P w K mg base CX0 (k + 1) f fd ["p", "stride", "stairs", "pattern"] spRest := by
  refine F.ok scRest (fun vs H Q E h => ?_) (fun cdv A outer s H vs Q E hr h => ?_)
  · obtain ⟨p, a, b, S, R, rfl, _⟩ := h
    rfl
  · obtain ⟨p, a, b, S, R, rfl, h1, h2, h3, h4, h5, q⟩ := h
    refine ⟨_, pss_one (ps_ret (pe_ix ix_tup (pe_call GT hr (by rfl) AT.g AT.F.kp AT.b .nil pass0 (pa_cons (pv 0) (pa_cons (pv 1) (pa_cons (pv 2) (pa_cons (pv 3) pa_nil))))) pe_int (fun _ _ => rfl))), ?_⟩
    refine ⟨.int p, rfl, .int 0, rfl, .ref a, rfl, .ref b, rfl, p, a, b, S, R, rfl, h1, h2, h3, h4, h5, fun H' t T pr l s g sp hz ht hT => ?_⟩
    exact ⟨t, _, 0, .ref pr, rfl, rfl, SqT.of ht, rfl, q H' pr T s g sp hz hT⟩
end
end D24
set_option Elab.async false
set_option linter.all false
set_option maxRecDepth 100000
set_option maxHeartbeats 4000000
/-! put_in. -/
namespace D24
open PySem PySem.Spec PyProof.Rows L2
/-! ### stairs that are kept by their columns -/
def StepIs (H : Hp) (kv : Int × V) (q : Int × Pat) : Prop := kv.1 = q.1 ∧ ∃ o, kv.2 = .ref o ∧ OneAt H o q.2
def StepsAt (H : Hp) (d : Addr) (S : List (Int × Pat)) : Prop := ∃ kvs : List (Int × V), H d = some (.dK (kvs.map (reK Sum.inl))) ∧ Paired (StepIs H) kvs S
theorem StepIs.keep {H H' : Hp} {kv : Int × V} {q : Int × Pat} (t : Tk H H') (h : StepIs H kv q) : StepIs H' kv q := by
  obtain ⟨h1, o, h2, h3⟩ := h
  exact ⟨h1, o, h2, h3.keep t⟩
theorem steps_keep {H H' : Hp} {kvs : List (Int × V)} {S : List (Int × Pat)} (t : Tk H H') (h : Paired (StepIs H) kvs S) : Paired (StepIs H') kvs S := Paired.mapP h fun _ _ z => z.keep t
theorem StepsAt.same {H H' : Hp} {d : Addr} {S : List (Int × Pat)} (s : Same H H') (h : StepsAt H d S) : StepsAt H' d S := by
  obtain ⟨kvs, h1, h2⟩ := h
  exact ⟨kvs, s _ _ h1, steps_keep (Tk.same s) h2⟩
theorem StepsAt.notup {H : Hp} {d : Addr} {S : List (Int × Pat)} (h : StepsAt H d S) : ∀ xs, H d ≠ some (.tup xs) := by
  obtain ⟨kvs, h1, _⟩ := h
  intro xs e
  rw [h1] at e
  cases e
structure Ech (p : Int) (S : List (Int × Pat)) : Prop where
  nd : (S.map (·.1)).Nodup
  lead : ∀ q ∈ S, Lead p q.1 q.2
theorem Ech.nil {p : Int} : Ech p [] := ⟨List.nodup_nil, fun _ h => nomatch h⟩
theorem Ech.len {p : Int} {S : List (Int × Pat)} (h : Ech p S) : S.length ≤ 13 := by
  have h2 := nodup_sub_length (m := places) h.nd fun x hx => by
    obtain ⟨q, hq, rfl⟩ := List.mem_map.mp hx
    have l := h.lead q hq
    exact mem_places.mpr (bd_val l.bd (by rw [l.one]; decide))
  rw [List.length_map] at h2
  exact Nat.le_trans h2 (by decide)
theorem steps_look {H : Hp} (x : Int) : ∀ {kvs : List (Int × V)} {S : List (Int × Pat)}, Paired (StepIs H) kvs S → (valV kvs x = none ∧ ¬ x ∈ S.map (·.1)) ∨ ∃ o R, valV kvs x = some (.ref o) ∧ (x, R) ∈ S ∧ OneAt H o R
  | _, _, .nil => .inl ⟨rfl, by simp⟩
  | kv :: kvs, q :: S, .cons h t => by
    obtain ⟨h1, o, h2, h3⟩ := h
    by_cases e : kv.1 = x
    · refine .inr ⟨o, q.2, by rw [valV_pos e, h2], ?_, h3⟩
      rw [show (x, q.2) = q from Prod.ext (e.symm.trans h1) rfl]
      exact List.mem_cons_self
    · rw [valV_neg e]
      rcases steps_look x t with ⟨a, b⟩ | ⟨o, R, a, b, c⟩
      · refine .inl ⟨a, ?_⟩
        rw [List.map_cons]
        intro m
        rcases List.mem_cons.mp m with z | z
        · exact e (by rw [h1, z])
        · exact b z
      · exact .inr ⟨o, R, a, List.mem_cons_of_mem _ b, c⟩
theorem steps_keys {H : Hp} : ∀ {kvs : List (Int × V)} {S : List (Int × Pat)}, Paired (StepIs H) kvs S → kvs.map (·.1) = S.map (·.1)
  | _, _, .nil => rfl
  | _, _, .cons h t => by rw [List.map_cons, List.map_cons, steps_keys t, h.1]
theorem SpEq.unit {p : Int} {T R : Pat} {A : List Pat} (h1 : ∃ c : Int, ∀ x, p ∣ val T x - c * val R x) (h2 : ∃ c : Int, ∀ x, p ∣ val R x - c * val T x) : SpEq p (T :: A) (R :: A) := by
  have one : ∀ {X Y : Pat}, (∃ c : Int, ∀ x, p ∣ val X x - c * val Y x) → ∀ v ∈ X :: A, InSp p (Y :: A) (val v) := fun {X Y} h v hv => by
    rcases List.mem_cons.mp hv with e | hv
    · subst e
      obtain ⟨c, hc⟩ := h
      exact ⟨c, InSp.of_dvd hc⟩
    · exact (InSp.mem hv).tail
  exact SpEq.of (one h1) (one h2)
theorem SpEq.less {p c : Int} {T R Z : Pat} {A : List Pat} (hZ : Z ∈ A) (h : ∀ x, p ∣ val T x - (val R x - c * val Z x)) : SpEq p (T :: A) (R :: A) := by
  have mZ : InSp p A (val Z) := InSp.mem hZ
  refine SpEq.of (fun v hv => ?_) fun v hv => ?_
  · rcases List.mem_cons.mp hv with e | hv
    · subst e
      refine ⟨1, InSp.congr (fun x => ?_) (mZ.smul (-c))⟩
      have := h x
      rw [show -c * val Z x - (val v x - 1 * val R x) = -(val v x - (val R x - c * val Z x)) by rw [Int.neg_mul]; omega]
      exact Int.dvd_neg.mpr this
    · exact (InSp.mem hv).tail
  · rcases List.mem_cons.mp hv with e | hv
    · subst e
      refine ⟨1, InSp.congr (fun x => ?_) (mZ.smul c)⟩
      have := h x
      rw [show c * val Z x - (val v x - 1 * val T x) = val T x - (val v x - c * val Z x) by omega]
      exact this
    · exact (InSp.mem hv).tail
theorem SpEq.dark {p : Int} {A : List Pat} : SpEq p A ([] :: A) := SpEq.of (fun v hv => (InSp.mem hv).tail) fun v hv => by
  rcases List.mem_cons.mp hv with e | hv
  · subst e
    exact InSp.zero
  · exact InSp.mem hv
section
variable {P : Program} {w : World} {K : PySem.W.Frag} {mg : Str → Option Value} {base : Heap}
def spPut : Sp := fun vs H Q _ => ∃ (p : Int) (d o : Addr) (S : List (Int × Pat)) (R : Pat), vs = [.int p, .int 0, .ref d, .ref o] ∧ Pr p ∧ Good p R ∧ OneAt H o R ∧ StepsAt H d S ∧ Ech p S ∧
  ∀ H' S', But d H H' → StepsAt H' d S' → Ech p S' → SpEq p (S'.map (·.2)) (R :: S.map (·.2)) → Q .non H'
theorem scPut : FnScope ["p", "stride", "steps", "one", "at", "stair"] ["p", "stride", "steps", "one"] (defScope sPut) := ⟨rfl, rfl, rfl, by decide +kernel, rfl, by decide +kernel, by decide +kernel⟩
theorem ok_put {f fN fF fL fLo : Addr} {fd fdN fdF fdL fdLo : FuncData} {k : Nat} (F : Fun K "put_in" "put_in" sPut f fd)
    (GN : FnOk P w K mg base CX0 k fN fdN ["p", "stride", "one"] spNormal) (AN : At K mg "normal" sNormal ["p", "stride", "one"] fN fdN)
    (GF : FnOk P w K mg base CX0 k fF fdF ["stride", "pattern"] spFirst) (AF : At K mg "first_column" sFirst ["stride", "pattern"] fF fdF)
    (GL : FnOk P w K mg base CX0 k fL fdL ["stride", "pattern"] spLen) (AL : At K mg "length" sLength ["stride", "pattern"] fL fdL)
    (GLo : FnOk P w K mg base CX0 k fLo fdLo ["p", "stride", "stair", "one"] spLow) (ALo : At K mg "lowered" sLowered ["p", "stride", "stair", "one"] fLo fdLo) (ml : mg "len" = none) :
    FnOk P w K mg base CX0 (k + 1) f fd ["p", "stride", "steps", "one"] spPut := by
  refine F.ok scPut (fun vs H Q E h => ?_) (fun cdv A outer s H vs Q E hr h => ?_)
  · obtain ⟨p, d, o, S, R, rfl, _⟩ := h
    rfl
  · obtain ⟨p, d, o, S, R, rfl, hp, gR, hR, ⟨kvs, hd, hS⟩, hE, q⟩ := h
    have hu := hu_of hr
    have hp0 := hp.pos
    have hSl := hE.len
    have ekv := paired_len hS
    refine ⟨_, pss_one (ps_while PassesOwn.never (pt_cmpR op_gt (pe_callB call_len_seq (by rfl) ml PySem.boot_len (pa_cons (pe_ix ix_tup (pv 3) pe_int (fun _ _ => rfl)) pa_nil)) pe_int (nomark _))
      (pss_cons (ps_set (i := 3) scPut.nd rfl (.inl rfl) (pe_call GN hr (by rfl) AN.g AN.F.kp AN.b .nil pass0 (pa_cons (pv 0) (pa_cons (pv 1) (pa_cons (pv 3) pa_nil)))))
      (pss_cons (ps_set (i := 4) scPut.nd rfl (.inl rfl) (pe_call GF hr (by rfl) AF.g AF.F.kp AF.b .nil pass0 (pa_cons (pv 1) (pa_cons (pe_ix ix_tup (pv 3) pe_int (fun _ _ => rfl)) pa_nil))))
      (pss_cons (ps_if (pt_cmp (pc_dnotin hu (pv 4) (pv 2)) rfl) (pss_cons (ps_dput hu (pv 2) (pv 4) (pv 3) rfl) (pss_one ps_retN)) pss_nil)
      (pss_cons (ps_set (i := 5) scPut.nd rfl (.inl rfl) (pe_dget hu (pv 2) (pv 4) (fun _ _ => rfl)))
      (pss_cons (ps_if (pt_cmpR op_lt (pe_call GL hr (by rfl) AL.g AL.F.kp AL.b .nil pass0 (pa_cons (pv 1) (pa_cons (pe_ix ix_tup (pv 3) pe_int (fun _ _ => rfl)) pa_nil))) (pe_call GL hr (by rfl) AL.g AL.F.kp AL.b .nil pass0 (pa_cons (pv 1) (pa_cons (pe_ix ix_tup (pv 5) pe_int (fun _ _ => rfl)) pa_nil))) (nomark _)) pss_never pss_nil)
      (pss_one (ps_set (i := 3) scPut.nd rfl (.inl rfl) (pe_call GLo hr (by rfl) ALo.g ALo.F.kp ALo.b .nil pass0 (pa_cons (pv 0) (pa_cons (pv 1) (pa_cons (pe_dget hu (pv 2) (pv 4) (fun _ _ => rfl)) (pa_cons (pv 3) pa_nil))))))))))))), ?_⟩
    refine ⟨fun m σ H1 => ∃ (o : Addr) (T : Pat) (v4 v5 : Option V), σ = [some (.int p), some (.int 0), some (.ref d), some (.ref o), v4, v5] ∧ Same H H1 ∧ Good p T ∧ OneAt H1 o T ∧ SpEq p (T :: S.map (·.2)) (R :: S.map (·.2)) ∧ ∀ x : Int, x < 7 - (m : Int) → val T x = 0,
      ⟨13, o, R, none, none, rfl, Same.refl H, gR, hR, SpEq.refl _, fun x hx => Classical.byContradiction fun z => by have := bd_val gR.bd z; omega⟩, ?_⟩
    rintro m σ H1 ⟨o, T, v4, v5, rfl, s1, gT, hT, hsp, hz⟩
    obtain ⟨po, mo, M, eo, Po, Ko, ko⟩ := id hT
    obtain ⟨as, ha, hTs⟩ := id Po
    have eT := paired_len hTs
    refine ⟨.ref o, rfl, o, _, 0, .ref po, rfl, rfl, SqT.of eo, rfl, po, _, rfl, .inr (SqT.of ha), _, _, rfl, rfl, _, rfl, ite2 (fun c => ?_) (fun c => ?_)⟩
    · have hne : T ≠ [] := fun z => by
        rw [z] at eT
        have := of_decide_eq_true c
        rw [List.length_map, eT] at this
        exact absurd this (by decide)
      refine ⟨fun σ' H' => ∃ m', m' < m ∧ ∃ (o : Addr) (T : Pat) (v4 v5 : Option V), σ' = [some (.int p), some (.int 0), some (.ref d), some (.ref o), v4, v5] ∧ Same H H' ∧ Good p T ∧ OneAt H' o T ∧ SpEq p (T :: S.map (·.2)) (R :: S.map (·.2)) ∧ ∀ x : Int, x < 7 - (m' : Int) → val T x = 0, fun σ' H' h => h, ?_⟩
      -- one = normal(..)
      refine ⟨.int p, rfl, .int 0, rfl, .ref o, rfl, p, o, T, rfl, hp, gT, hne, hT, fun H2 o2 T2 at_ s2 hlow lT2 u1 u2 hT2 => ?_⟩
      have s12 := s1.trans s2
      obtain ⟨p2, m2, M2, e2, P2, K2, k2⟩ := id hT2
      have sp2 : SpEq p (T2 :: S.map (·.2)) (R :: S.map (·.2)) := (SpEq.unit u1 u2).trans hsp
      have g2l := lT2.good.len
      -- at
      refine ⟨.int 0, rfl, .ref o2, rfl, o2, _, 0, .ref p2, rfl, rfl, SqT.of e2, rfl, p2, T2, at_, rfl, P2, lT2.lowp, by omega, fun H3 s3 => ?_⟩
      have s13 := s12.trans s3
      have hd3 : H3 d = some (.dK (kvs.map (reK Sum.inl))) := s13 _ _ hd
      have g1 : DGet H3 d (.int at_) (valV kvs at_) := by
        have := DGet.k (k := Sum.inl at_) hd3
        rw [valV_re sinl_inj] at this
        exact this
      have hS3 : Paired (StepIs H3) kvs S := steps_keep (Tk.same s13) hS
      have hT3 : OneAt H3 o2 T2 := hT2.keep (Tk.same s3)
      refine ⟨.int at_, rfl, .ref d, rfl, d, valV kvs at_, rfl, g1, _, rfl, ?_⟩
      rcases steps_look at_ hS3 with ⟨en, hn⟩ | ⟨oq, Rq, es, hq, hoq⟩
      · rw [en]
        refine iteT ?_
        -- steps[at] = one; return
        refine ⟨.ref o2, rfl, .ref d, rfl, .int at_, rfl, d, _, rfl, DPut.k (k := Sum.inl at_) hd3 (by rw [List.length_map]; exact lt_line (by omega)), ?_⟩
        have nt : ∀ xs, H3 d ≠ some (.tup xs) := fun xs z => by rw [hd3] at z; cases z
        have eput : putK (kvs.map (reK (Sum.inl : Int → Key))) (Sum.inl at_) (V.ref o2) = (kvs ++ [(at_, V.ref o2)]).map (reK Sum.inl) := by rw [putK_re sinl_inj, putK_new _ en]
        have tk := tk_upd (o := .dK (putK (kvs.map (reK Sum.inl)) (Sum.inl at_) (.ref o2))) nt
        refine q _ (S ++ [(at_, T2)]) ((But.same s13).trans But.upd) ⟨kvs ++ [(at_, .ref o2)], by rw [upd_same, eput], paired_app (steps_keep tk hS3) (.cons ⟨rfl, o2, rfl, hT3.keep tk⟩ .nil)⟩ ⟨?_, fun z hz' => ?_⟩ ?_
        · rw [List.map_append]
          exact nd_snoc hE.nd hn
        · rcases List.mem_append.mp hz' with y | y
          · exact hE.lead z y
          · rw [List.mem_singleton.mp y]; exact lT2
        · refine SpEq.trans (SpEq.mem fun v => ?_) sp2
          rw [List.map_append, List.mem_append, List.mem_cons]
          simp only [List.map_cons, List.map_nil, List.mem_singleton]
          exact Or.comm
      · rw [es]
        refine iteF ?_
        rw [es] at g1
        have lq := hE.lead _ hq
        -- stair = steps[at]
        obtain ⟨p3, m3, M3, e3, P3, K3, k3⟩ := id hT3
        obtain ⟨pq, mq, Mq, eq, Pq, Kq, kq⟩ := id hoq
        refine ⟨.ref d, rfl, .int at_, rfl, d, .ref oq, rfl, g1, ?_⟩
        refine ⟨.int 0, rfl, .ref o2, rfl, o2, _, 0, .ref p3, rfl, rfl, SqT.of e3, rfl, .ref p3, rfl, .int 0, rfl, .ref oq, rfl, oq, _, 0, .ref pq, rfl, rfl, SqT.of eq, rfl, .ref pq, rfl, _, _, rfl, rfl, _, rfl, ite2 (fun c => absurd (of_decide_eq_true c) (by decide)) (fun _ => ?_)⟩
        -- one = lowered(..)
        refine ⟨.int p, rfl, .int 0, rfl, .ref d, rfl, .int at_, rfl, d, .ref oq, rfl, g1, .ref o2, rfl, p, oq, o2, Rq, at_, T2, rfl, hp, lq, lT2.good, hoq, hT3, fun H4 o4 T4 s4 g4 v4' hT4 => ?_⟩
        have hat := bd_val lT2.bd (x := at_) (by rw [lT2.one]; decide)
        have hvT := hlow.val gT.can
        have hge : 7 - (m : Int) ≤ at_ := Classical.byContradiction fun z => by
          have := hz at_ (by omega)
          omega
        refine ⟨m - 1, by omega, o4, T4, _, _, rfl, s13.trans s4, g4, hT4, SpEq.trans (SpEq.less (c := val T2 at_) (List.mem_map.mpr ⟨_, hq, rfl⟩) fun x => dvd_of_mod (v4' x)) sp2, fun x hx => ?_⟩
        rw [v4']
        by_cases ex : x = at_
        · rw [ex, lT2.one, lq.one]
          exact Int.zero_emod p
        · have hlt : x < at_ := by omega
          rw [lT2.low x hlt, lq.low x hlt, Int.mul_zero]
          exact Int.zero_emod p
    · have hT0 : T = [] := by
        cases T with
        | nil => rfl
        | cons z r =>
          refine absurd (decide_eq_true ?_) c
          rw [List.length_map, eT, List.length_cons]
          omega
      subst hT0
      exact q H1 S (But.same s1) ⟨kvs, s1 _ _ hd, steps_keep (Tk.same s1) hS⟩ hE (SpEq.dark.trans hsp)
end
end D24
set_option Elab.async false
set_option linter.all false
set_option maxRecDepth 100000
set_option maxHeartbeats 4000000
/-! settle, built. -/
namespace D24
open PySem PySem.Spec PyProof.Rows L2
theorem cut_from {xs : List V} {z : Int} {k : Nat} (hz : z = (k : Int)) (hk : k ≤ xs.length) : cutV xs (some z) none = xs.drop k := by
  subst hz
  unfold cutV
  rw [HT.sIx_nat, HT.sIx_none, Nat.min_eq_left hk]
  exact List.take_of_length_le (by rw [List.length_drop]; exact Nat.le_refl _)
/-- the pattern at a column is told anew -/
def setAt (S : List (Int × Pat)) (x : Int) (T : Pat) : List (Int × Pat) := S.map fun q => if q.1 = x then (q.1, T) else q
theorem setAt_keys (S : List (Int × Pat)) (x : Int) (T : Pat) : (setAt S x T).map (·.1) = S.map (·.1) := by
  unfold setAt
  rw [List.map_map]
  refine List.map_congr_left fun q _ => ?_
  by_cases e : q.1 = x <;> simp [e]
theorem setAt_mem {S : List (Int × Pat)} {x : Int} {T : Pat} {q : Int × Pat} (h : q ∈ setAt S x T) : (q = (x, T)) ∨ (q ∈ S ∧ q.1 ≠ x) := by
  obtain ⟨r, hr, e⟩ := List.mem_map.mp h
  by_cases z : r.1 = x
  · rw [if_pos z] at e
    exact .inl (by rw [← e, z])
  · rw [if_neg z] at e
    exact .inr (by rw [← e]; exact ⟨hr, z⟩)
theorem mem_setAt {S : List (Int × Pat)} {x : Int} {T : Pat} {q : Int × Pat} (h : q ∈ S) (hx : q.1 ≠ x) : q ∈ setAt S x T := List.mem_map.mpr ⟨q, h, if_neg hx⟩
theorem mem_setAt_self {S : List (Int × Pat)} {x : Int} {T : Pat} (h : x ∈ S.map (·.1)) : (x, T) ∈ setAt S x T := by
  obtain ⟨q, hq, e⟩ := List.mem_map.mp h
  exact List.mem_map.mpr ⟨q, hq, by rw [if_pos e, e]⟩
theorem key_one : ∀ {S : List (Int × Pat)} {x : Int} {R T : Pat}, (S.map (·.1)).Nodup → (x, R) ∈ S → (x, T) ∈ S → R = T
  | q :: S, x, R, T, hn, h1, h2 => by
    rw [List.map_cons] at hn
    obtain ⟨n1, n2⟩ := List.nodup_cons.mp hn
    rcases List.mem_cons.mp h1 with a | a
    · rcases List.mem_cons.mp h2 with b | b
      · rw [← a] at b
        exact (congrArg Prod.snd b).symm
      · exact absurd (List.mem_map.mpr ⟨_, b, rfl⟩) (by rw [← a] at n1; exact n1)
    · rcases List.mem_cons.mp h2 with b | b
      · exact absurd (List.mem_map.mpr ⟨_, a, rfl⟩) (by rw [← b] at n1; exact n1)
      · exact key_one n2 a b
/-- the others' patterns -/
def others (S : List (Int × Pat)) (x : Int) : List Pat := (S.filter fun q => decide (q.1 ≠ x)).map (·.2)
theorem mem_others {S : List (Int × Pat)} {x : Int} {q : Int × Pat} (h : q ∈ S) (hx : q.1 ≠ x) : q.2 ∈ others S x := List.mem_map.mpr ⟨q, List.mem_filter.mpr ⟨h, decide_eq_true hx⟩, rfl⟩
theorem others_mem {S : List (Int × Pat)} {x : Int} {v : Pat} (h : v ∈ others S x) : ∃ q ∈ S, q.1 ≠ x ∧ q.2 = v := by
  obtain ⟨q, hq, e⟩ := List.mem_map.mp h
  obtain ⟨h1, h2⟩ := List.mem_filter.mp hq
  exact ⟨q, h1, of_decide_eq_true h2, e⟩
theorem setAt_sp {p : Int} {S : List (Int × Pat)} {x : Int} {R T : Pat} (hn : (S.map (·.1)).Nodup) (hR : (x, R) ∈ S) (h : InSp p (others S x) (fun y => val R y - val T y)) : SpEq p ((setAt S x T).map (·.2)) (S.map (·.2)) := by
  have m1 : ∀ v ∈ others S x, InSp p (S.map (·.2)) (val v) := fun v hv => by
    obtain ⟨q, hq, _, rfl⟩ := others_mem hv
    exact InSp.mem (List.mem_map.mpr ⟨q, hq, rfl⟩)
  have m2 : ∀ v ∈ others S x, InSp p ((setAt S x T).map (·.2)) (val v) := fun v hv => by
    obtain ⟨q, hq, hx, rfl⟩ := others_mem hv
    exact InSp.mem (List.mem_map.mpr ⟨q, mem_setAt hq hx, rfl⟩)
  refine SpEq.of (fun v hv => ?_) fun v hv => ?_
  · obtain ⟨q, hq, rfl⟩ := List.mem_map.mp hv
    rcases setAt_mem hq with e | ⟨a, _⟩
    · rw [e]
      have h1 : InSp p (S.map (·.2)) (val R) := InSp.mem (List.mem_map.mpr ⟨_, hR, rfl⟩)
      refine InSp.congr (fun y => ?_) (h1.sub (InSp.mono m1 h))
      show p ∣ val R y - (val R y - val T y) - val T y
      rw [show val R y - (val R y - val T y) - val T y = 0 by omega]
      exact Int.dvd_zero _
    · exact InSp.mem (List.mem_map.mpr ⟨q, a, rfl⟩)
  · obtain ⟨q, hq, rfl⟩ := List.mem_map.mp hv
    by_cases e : q.1 = x
    · have eR : q.2 = R := key_one hn (x := x) (by rw [← e]; exact hq) hR
      rw [eR]
      have h1 : InSp p ((setAt S x T).map (·.2)) (val T) := InSp.mem (List.mem_map.mpr ⟨(x, T), mem_setAt_self (List.mem_map.mpr ⟨_, hR, rfl⟩), rfl⟩)
      refine InSp.congr (fun y => ?_) (h1.add (InSp.mono m2 h))
      show p ∣ val T y + (val R y - val T y) - val R y
      rw [show val T y + (val R y - val T y) - val R y = 0 by omega]
      exact Int.dvd_zero _
    · exact InSp.mem (List.mem_map.mpr ⟨q, mem_setAt hq e, rfl⟩)
theorem steps_set {H : Hp} {x : Int} {o : Addr} {T : Pat} (hT : OneAt H o T) : ∀ {kvs : List (Int × V)} {S : List (Int × Pat)}, Paired (StepIs H) kvs S → Paired (StepIs H) (kvs.map fun kv => if kv.1 = x then (kv.1, .ref o) else kv) (setAt S x T)
  | _, _, .nil => .nil
  | kv :: kvs, q :: S, .cons h t => by
    refine .cons ?_ (steps_set hT t)
    obtain ⟨h1, o', h2, h3⟩ := h
    show StepIs H (if kv.1 = x then (kv.1, .ref o) else kv) (if q.1 = x then (q.1, T) else q)
    by_cases e : kv.1 = x
    · rw [if_pos e, if_pos (h1.symm.trans e)]
      exact ⟨h1, o, rfl, hT⟩
    · rw [if_neg e, if_neg (fun z => e (h1.trans z))]
      exact ⟨h1, o', h2, h3⟩
section
variable {P : Program} {w : World} {K : PySem.W.Frag} {mg : Str → Option Value} {base : Heap}
def spSettle : Sp := fun vs H Q _ => ∃ (p : Int) (d : Addr) (S : List (Int × Pat)), vs = [.int p, .int 0, .ref d] ∧ Pr p ∧ StepsAt H d S ∧ Ech p S ∧
  ∀ H' S', But d H H' → StepsAt H' d S' → Ech p S' → SpEq p (S'.map (·.2)) (S.map (·.2)) → Q .non H'
theorem scSettle : FnScope ["p", "stride", "steps", "columns", "k", "one", "later"] ["p", "stride", "steps"] (defScope sSettle) := ⟨rfl, rfl, rfl, by decide +kernel, rfl, by decide +kernel, by decide +kernel⟩
theorem ok_settle {f fLo : Addr} {fd fdLo : FuncData} {k : Nat} (F : Fun K "settle" "settle" sSettle f fd)
    (GLo : FnOk P w K mg base CX0 k fLo fdLo ["p", "stride", "stair", "one"] spLow) (ALo : At K mg "lowered" sLowered ["p", "stride", "stair", "one"] fLo fdLo) (ml : mg "len" = none) (m1 : mg "range" = none) (m2 : mg "sorted" = none) :
    FnOk P w K mg base CX0 (k + 1) f fd ["p", "stride", "steps"] spSettle := by
  refine F.ok scSettle (fun vs H Q E h => ?_) (fun cdv A outer s H vs Q E hr h => ?_)
  · obtain ⟨p, d, S, rfl, _⟩ := h
    rfl
  · obtain ⟨p, d, S, rfl, hp, ⟨kvs, hd, hS⟩, hE, q⟩ := h
    have hu := hu_of hr
    have hp0 := hp.pos
    have hSl := hE.len
    have ekv := paired_len hS
    refine ⟨_, pss_cons (ps_set (i := 3) scSettle.nd rfl (.inl rfl) (pe_callB (call_sortedDI rfl) (by rfl) m2 (by decide +kernel) (pa_cons (pv 2) pa_nil)))
      (pss_one (ps_for PassesOwn.never rfl (pi_range3 (by rfl) m1 (pa_cons (pe_op op_sub (pe_callB call_len_seq (by rfl) ml PySem.boot_len (pa_cons (pv 3) pa_nil)) pe_int) (pa_cons (pe_un un_neg pe_int) (pa_cons (pe_un un_neg pe_int) pa_nil)))) (pg_name (i := 4) scSettle.nd rfl (.inl rfl))
        (pss_cons (ps_set (i := 5) scSettle.nd rfl (.inl rfl) (pe_dget hu (pv 2) (pe_ix ix_list (pv 3) (pv 4) (fun _ _ => rfl)) (fun _ _ => rfl)))
        (pss_cons (ps_for PassesOwn.never rfl (pi_list (pe_slice sl_list (pv 3) (po_some (pe_op op_add (pv 4) pe_int)) po_none)) (pg_name (i := 6) scSettle.nd rfl (.inl rfl))
          (pss_one (ps_set (i := 5) scSettle.nd rfl (.inl rfl) (pe_call GLo hr (by rfl) ALo.g ALo.F.kp ALo.b .nil pass0 (pa_cons (pv 0) (pa_cons (pv 1) (pa_cons (pe_dget hu (pv 2) (pv 6) (fun _ _ => rfl)) (pa_cons (pv 5) pa_nil))))))))
        (pss_one (ps_dput hu (pv 2) (pe_ix ix_list (pv 3) (pv 4) (fun _ _ => rfl)) (pv 5) rfl)))))), ?_⟩
    -- columns = sorted(steps)
    refine ⟨.ref d, rfl, d, _, kvs.map (·.1), rfl, .inl hd, by rw [map_re_keys], by rw [List.length_map]; omega, fun ys c pm pw nc => ?_⟩
    have hkeys := steps_keys hS
    rw [hkeys] at pm
    have ysl : ys.length ≤ 13 := by
      have := pm.length_eq
      rw [List.length_map] at this
      omega
    have hinc := inc_of pw (pm.nodup_iff.mpr hE.nd)
    have s1 : Same H (upd H c (.lst (ys.map V.int))) := same_upd nc
    have ncd : c ≠ d := fun z => by rw [z, hd] at nc; cases nc
    have hd1 := s1 _ _ hd
    have hS1 := steps_keep (Tk.same s1) hS
    have hc1 : (upd H c (.lst (ys.map V.int))) c = some (.lst (ys.map V.int)) := upd_same
    generalize upd H c (.lst (ys.map V.int)) = H1 at s1 hd1 hS1 hc1
    -- the turns, from the last column
    refine ⟨.ref c, rfl, c, _, rfl, .inl (SqL.of hc1), _, _, rfl, rfl, 1, rfl, 1, rfl, (ys.length : Int) - 1, -1, -1, ((ys.length : Int) - 1 - (-1)).toNat, by rw [List.length_map], RgC.neg (by omega) (by omega) (by omega) (by omega),
      for_rangeC (lo := (ys.length : Int) - 1) (c := -1) (n := ((ys.length : Int) - 1 - (-1)).toNat) (fun i σ H2 => ∃ (S2 : List (Int × Pat)) (v4 v5 v6 : Option V), σ = [some (.int p), some (.int 0), some (.ref d), some (.ref c), v4, v5, v6] ∧ But d H1 H2 ∧ StepsAt H2 d S2 ∧ Ech p S2 ∧ SpEq p (S2.map (·.2)) (S.map (·.2)) ∧ S2.map (·.1) = S.map (·.1))
      ⟨S, none, none, none, rfl, But.same (Same.refl _), ⟨kvs, hd1, hS1⟩, hE, SpEq.refl _, rfl⟩ ?_ ?_⟩
    · rintro i σ H2 hi ⟨S2, v4, v5, v6, rfl, b2, ⟨kv2, hd2, hS2⟩, hE2, sp2, ek2⟩
      have hin : i < ys.length := by omega
      have hc2 : H2 c = some (.lst (ys.map V.int)) := b2 _ _ hc1 ncd
      obtain ⟨x, hx⟩ : ∃ x, ys[ys.length - 1 - i]? = some x := ⟨_, List.getElem?_eq_getElem (show ys.length - 1 - i < ys.length by omega)⟩
      have hix : atI (ys.map V.int) ((ys.length : Int) - 1 + (i : Int) * -1) = some (.int x) := at_of (j := ys.length - 1 - i) (by omega) (by rw [List.getElem?_map, hx]; rfl)
      have hxk : x ∈ S2.map (·.1) := by rw [ek2]; exact pm.mem_iff.mp (List.mem_of_getElem? hx)
      obtain ⟨o, R0, ev, hR0, ho⟩ := (steps_look x hS2).resolve_left fun z => z.2 hxk
      have look2 : ∀ (H3 : Hp), H3 d = some (.dK (kv2.map (reK Sum.inl))) → ∀ y : Int, DGet H3 d (.int y) (valV kv2 y) := fun H3 h3 y => by
        have := DGet.k (k := Sum.inl y) h3
        rw [valV_re sinl_inj] at this
        exact this
      have g1 := look2 H2 hd2 x
      rw [ev] at g1
      have l0 := hE2.lead _ hR0
      refine ⟨.ref d, rfl, .ref c, rfl, .int ((ys.length : Int) - 1 + (i : Int) * -1), rfl, c, _, _, .int x, rfl, rfl, SqL.of hc2, hix, d, .ref o, rfl, g1, ?_⟩
      -- for later in columns[k + 1:]
      have hcut : cutV (ys.map V.int) (some ((ys.length : Int) - 1 + (i : Int) * -1 + 1)) none = (ys.map V.int).drop (ys.length - i) := cut_from (by omega) (by rw [List.length_map]; omega)
      refine ⟨.ref c, rfl, .int ((ys.length : Int) - 1 + (i : Int) * -1), rfl, _, _, rfl, rfl, _, rfl, c, _, rfl, SqL.of hc2, fun e ne => ?_⟩
      rw [hcut, ← List.map_drop]
      have s3 : Same H2 (upd H2 e (.lst ((ys.drop (ys.length - i)).map V.int))) := same_upd ne
      have he3 : (upd H2 e (.lst ((ys.drop (ys.length - i)).map V.int))) e = some (.lst ((ys.drop (ys.length - i)).map V.int)) := upd_same
      generalize upd H2 e (.lst ((ys.drop (ys.length - i)).map V.int)) = H3 at s3 he3
      refine ⟨e, rfl, ⟨_, SqL.of he3⟩, for_list (K := K) (a := e) (xs := (ys.drop (ys.length - i)).map V.int) (fun j σ H4 => ∃ (o : Addr) (T : Pat) (v6 : Option V), σ = [some (.int p), some (.int 0), some (.ref d), some (.ref c), some (.int ((ys.length : Int) - 1 + (i : Int) * -1)), some (.ref o), v6] ∧
          Same H3 H4 ∧ Lead p x T ∧ OneAt H4 o T ∧ InSp p (others S2 x) (fun y => val R0 y - val T y))
        ⟨o, R0, v6, rfl, Same.refl _, l0, ho.keep (Tk.same s3), InSp.of_dvd fun y => by rw [Int.sub_self]; exact Int.dvd_zero _⟩ (fun j σ H4 _ ⟨_, _, _, _, s4, _⟩ => SqL.of (s4 _ _ he3)) ?_ ?_⟩
      · rintro j y σ H4 hj ⟨o4, T4, w6, rfl, s4, l4, h4, sp4⟩
        obtain ⟨z, hz, rfl⟩ : ∃ z, (ys.drop (ys.length - i))[j]? = some z ∧ y = V.int z := by
          rw [List.getElem?_map] at hj
          cases e : (ys.drop (ys.length - i))[j]? with
          | none => rw [e] at hj; cases hj
          | some z => rw [e] at hj; exact ⟨z, rfl, (Option.some.inj hj).symm⟩
        rw [List.getElem?_drop] at hz
        have hxz : x < z := by
          obtain ⟨i1, e1⟩ := List.getElem?_eq_some_iff.mp hx
          obtain ⟨i2, e2⟩ := List.getElem?_eq_some_iff.mp hz
          rw [← e1, ← e2]
          exact List.pairwise_iff_getElem.mp hinc _ _ i1 i2 (by omega)
        have hzk : z ∈ S2.map (·.1) := by rw [ek2]; exact pm.mem_iff.mp (List.mem_of_getElem? hz)
        have s24 := s3.trans s4
        obtain ⟨oz, Rz, evz, hRz, hoz⟩ := (steps_look z (steps_keep (Tk.same s24) hS2)).resolve_left fun y => y.2 hzk
        have gz := look2 H4 (s24 _ _ hd2) z
        rw [evz] at gz
        have lz := hE2.lead _ hRz
        refine ⟨.int p, rfl, .int 0, rfl, .ref d, rfl, .int z, rfl, d, .ref oz, rfl, gz, .ref o4, rfl, p, oz, o4, Rz, z, T4, rfl, hp, lz, l4.good, hoz, h4, fun H5 o5 T5 s5 g5 v5' h5 => ?_⟩
        refine ⟨o5, T5, _, rfl, s4.trans s5, ⟨g5.can, g5.bd, ?_, fun y hy => ?_⟩, h5, ?_⟩
        · rw [v5', l4.one, lz.low x hxz, Int.mul_zero]
          exact Int.emod_eq_of_lt (by decide) (by rcases hp with e | e | e <;> omega)
        · rw [v5', l4.low y hy, lz.low y (by omega), Int.mul_zero]
          exact Int.zero_emod p
        · have m1 : InSp p (others S2 x) (fun y => val T4 z * val Rz y) := (InSp.mem (mem_others hRz (show z ≠ x by omega))).smul _
          refine InSp.congr (fun y => ?_) (sp4.add m1)
          rw [v5', show val R0 y - val T4 y + val T4 z * val Rz y - (val R0 y - (val T4 y - val T4 z * val Rz y) % p) = (val T4 y - val T4 z * val Rz y) % p - (val T4 y - val T4 z * val Rz y) by omega]
          exact dvd_emod_sub
      · rintro σ H4 ⟨o4, T4, w6, rfl, s4, l4, h4, sp4⟩
        have s24 := s3.trans s4
        have hd4 := s24 _ _ hd2
        have hc4 : H4 c = some (.lst (ys.map V.int)) := s24 _ _ hc2
        -- steps[columns[k]] = one
        refine ⟨.ref o4, rfl, .ref d, rfl, .ref c, rfl, .int ((ys.length : Int) - 1 + (i : Int) * -1), rfl, c, _, _, .int x, rfl, rfl, SqL.of hc4, hix, d, _, rfl, DPut.k (k := Sum.inl x) hd4 (by rw [List.length_map, paired_len hS2]; have := hE2.len; exact lt_line (by omega)), ?_⟩
        have eput : putK (kv2.map (reK (Sum.inl : Int → Key))) (Sum.inl x) (V.ref o4) = (kv2.map fun kv => if kv.1 = x then (kv.1, V.ref o4) else kv).map (reK Sum.inl) := by
          rw [putK_re sinl_inj]
          unfold putK
          rw [valV_any, ev]
          rfl
        have nt : ∀ xs, H4 d ≠ some (.tup xs) := fun xs z => by rw [hd4] at z; cases z
        have tk := tk_upd (o := .dK (putK (kv2.map (reK (Sum.inl : Int → Key))) (Sum.inl x) (V.ref o4))) nt
        refine ⟨setAt S2 x T4, _, _, _, rfl, (b2.trans (But.same s24)).trans But.upd, ⟨_, by rw [upd_same, eput], steps_set (h4.keep tk) (steps_keep (Tk.trans (Tk.same s24) tk) hS2)⟩, ⟨by rw [setAt_keys]; exact hE2.nd, fun z hz => ?_⟩, (setAt_sp hE2.nd hR0 sp4).trans sp2, by rw [setAt_keys]; exact ek2⟩
        rcases setAt_mem hz with y | ⟨y, _⟩
        · rw [y]; exact l4
        · exact hE2.lead z y
    · rintro σ H2 ⟨S2, v4, v5, v6, rfl, b2, h2, hE2, sp2, ek2⟩
      exact q H2 S2 ((But.same s1).trans b2) h2 hE2 sp2
end
end D24
set_option Elab.async false
set_option linter.all false
set_option maxRecDepth 100000
set_option maxHeartbeats 4000000
/-! built. -/
namespace D24
open PySem PySem.Spec PyProof.Rows L2
/-- patterns in a list -/
def PatsAt (H : Hp) (a : Addr) (Rs : List Pat) : Prop := ∃ as : List Addr, H a = some (.lst (as.map V.ref)) ∧ Paired (PatAt H) as Rs
theorem PatsAt.same {H H' : Hp} {a : Addr} {Rs : List Pat} (s : Same H H') (h : PatsAt H a Rs) : PatsAt H' a Rs := by
  obtain ⟨as, h1, h2⟩ := h
  exact ⟨as, s _ _ h1, Paired.mapP h2 fun _ _ z => z.same s⟩
theorem sech_of {p : Int} : ∀ {S : List (Int × Pat)}, (S.map (·.1)).Pairwise (· < ·) → (∀ q ∈ S, Lead p q.1 q.2) → SEch p S
  | [], _, _ => .nil
  | (a, v) :: S, h, l => by
    rw [List.map_cons] at h
    obtain ⟨h1, h2⟩ := List.pairwise_cons.mp h
    exact .cons (l (a, v) List.mem_cons_self) (fun q hq => h1 _ (List.mem_map.mpr ⟨q, hq, rfl⟩)) (sech_of h2 fun q hq => l q (List.mem_cons_of_mem _ hq))
section
variable {P : Program} {w : World} {K : PySem.W.Frag} {mg : Str → Option Value} {base : Heap}
def spBuilt : Sp := fun vs H Q _ => ∃ (p : Int) (a : Addr) (Rs : List Pat), vs = [.int p, .int 0, .ref a] ∧ Pr p ∧ PatsAt H a Rs ∧ (∀ R ∈ Rs, Good p R) ∧ Rs.length ≤ 13 ∧
  ∀ H' (t sa l : Addr) S, Same H H' → H' t = some (.tup [.ref sa, .ref l]) → StairsAt H' sa S → SEch p S → SpEq p (S.map (·.2)) Rs → Q (.ref t) H'
theorem scBuilt : FnScope ["p", "stride", "patterns", "steps", "k", "columns", "stairs", "at"] ["p", "stride", "patterns"] (defScope sBuilt) := ⟨rfl, rfl, rfl, by decide +kernel, rfl, by decide +kernel, by decide +kernel⟩
theorem ok_built {f fP fS fT fPa : Addr} {fd fdP fdS fdT fdPa : FuncData} {k : Nat} (F : Fun K "built" "built" sBuilt f fd)
    (GP : FnOk P w K mg base CX0 k fP fdP ["p", "stride", "steps", "one"] spPut) (AP : At K mg "put_in" sPut ["p", "stride", "steps", "one"] fP fdP)
    (GS : FnOk P w K mg base CX0 k fS fdS ["p", "stride", "steps"] spSettle) (AS : At K mg "settle" sSettle ["p", "stride", "steps"] fS fdS)
    (GT : FnOk P w K mg base CX0 k fT fdT ["p", "pairs"] spTidy) (AT : At K mg "tidy" sTidy ["p", "pairs"] fT fdT)
    (GPa : FnOk P w K mg base CX0 k fPa fdPa ["maker"] spParts) (APa : At K mg "parts_of" sParts ["maker"] fPa fdPa)
    (ml : mg "len" = none) (m1 : mg "range" = none) (m2 : mg "sorted" = none) (m3 : mg "list" = none) (m4 : mg "tuple" = none) :
    FnOk P w K mg base CX0 (k + 1) f fd ["p", "stride", "patterns"] spBuilt := by
  refine F.ok scBuilt (fun vs H Q E h => ?_) (fun cdv A outer s H vs Q E hr h => ?_)
  · obtain ⟨p, a, Rs, rfl, _⟩ := h
    rfl
  · obtain ⟨p, a, Rs, rfl, hp, ⟨as, ha, has⟩, gRs, hRl, q⟩ := h
    have hu := hu_of hr
    have hp0 := hp.pos
    have eas := paired_len has
    refine ⟨_, pss_cons (ps_set (i := 3) scBuilt.nd rfl (.inr rfl) pe_dnewK)
      (pss_cons (ps_for PassesOwn.never rfl (pi_range1 (by rfl) m1 (pa_cons (pe_callB call_len_seq (by rfl) ml PySem.boot_len (pa_cons (pv 2) pa_nil)) pa_nil)) (pg_name (i := 4) scBuilt.nd rfl (.inl rfl))
        (pss_cons (ps_expr (pe_call GP hr (by rfl) AP.g AP.F.kp AP.b .nil pass0 (pa_cons (pv 0) (pa_cons (pv 1) (pa_cons (pv 3) (pa_cons
            (pe_tup (pa_cons (pe_call GT hr (by rfl) AT.g AT.F.kp AT.b .nil pass0 (pa_cons (pv 0) (pa_cons (pe_callTy call_list_of (by rfl) m3 (by decide +kernel) (pa_cons (pe_ix ix_list (pv 2) (pv 4) (fun _ _ => rfl)) pa_nil)) pa_nil)))
              (pa_cons (pe_tup (pa_cons (pe_tup (pa_cons (pe_tup (pa_cons (pv 4) (pa_cons pe_int pa_nil))) (pa_cons pe_int pa_nil))) pa_nil)) pa_nil))) pa_nil))))))
        (pss_one (ps_expr (pe_call GS hr (by rfl) AS.g AS.F.kp AS.b .nil pass0 (pa_cons (pv 0) (pa_cons (pv 1) (pa_cons (pv 3) pa_nil))))))))
      (pss_cons (ps_set (i := 5) scBuilt.nd rfl (.inl rfl) (pe_callB (call_sortedDI rfl) (by rfl) m2 (by decide +kernel) (pa_cons (pv 3) pa_nil)))
      (pss_cons (ps_set (i := 6) scBuilt.nd rfl (.inl rfl) (pe_callTy call_tuple_of (by rfl) m4 (by decide +kernel) (pa_cons
        (pe_lc (own := [("at", 7)]) (g := gName 7) (te := tOp (rIxT K) (tDGet (tVar 3) (tVar 7)) (tC (.int 0))) rfl scBuilt.nd (pi_list (pv 5)) (blkOk_by (N := ["p", "stride", "patterns", "steps", "k", "columns", "stairs", "at"]) (sc := defScope sBuilt) (by decide +kernel))
          (fun _ _ _ _ _ => pg_name (i := 7) scBuilt.nd rfl (.inl rfl)) (fun _ _ _ _ _ => pts_nil)
          (fun _ _ _ _ _ => pe_ix ix_tup (pe_dget hu (pv 3) (pv 7) (fun _ _ => rfl)) pe_int (fun _ _ => rfl))) pa_nil)))
      (pss_one (ps_ret (pe_tup (pa_cons (pv 6) (pa_cons
        (pe_lc (own := [("at", 7)]) (g := gName 7) (te := tCall spParts [] E0 (tCons (tOp (rIxT K) (tDGet (tVar 3) (tVar 7)) (tC (.int 1))) tNil)) rfl scBuilt.nd (pi_list (pv 5)) (blkOk_by (N := ["p", "stride", "patterns", "steps", "k", "columns", "stairs", "at"]) (sc := defScope sBuilt) (by decide +kernel))
          (fun _ _ _ _ _ => pg_name (i := 7) scBuilt.nd rfl (.inl rfl)) (fun _ _ _ _ _ => pts_nil)
          (fun _ _ _ _ _ => pe_call GPa hr (by rfl) APa.g APa.F.kp APa.b .nil pass0 (pa_cons (pe_ix ix_tup (pe_dget hu (pv 3) (pv 7) (fun _ _ => rfl)) pe_int (fun _ _ => rfl)) pa_nil))) pa_nil)))))))), ?_⟩
    intro d nd
    refine ⟨.ref a, rfl, a, _, rfl, .inl (SqL.of ((same_upd nd) _ _ ha)), as.length, by rw [List.length_map], by omega, by omega, for_range (lo := 0) (n := as.length) (fun i σ H1 => ∃ (S : List (Int × Pat)) (v4 : Option V), σ = [some (.int p), some (.int 0), some (.ref a), some (.ref d), v4, none, none, none] ∧ Same H H1 ∧ StepsAt H1 d S ∧ Ech p S ∧ SpEq p (S.map (·.2)) (Rs.take i))
      ⟨[], none, rfl, same_upd nd, ⟨[], upd_same, .nil⟩, Ech.nil, SpEq.refl _⟩ ?_ ?_⟩
    · rintro i σ H1 hi ⟨S, v4, rfl, s1, hS, hE, sp⟩
      obtain ⟨c, hc⟩ : ∃ c, as[i]? = some c := ⟨as[i], List.getElem?_eq_getElem hi⟩
      obtain ⟨R, hR, ⟨bs, hb, pb⟩⟩ := paired_at has hc
      have gR := gRs R (List.mem_of_getElem? hR)
      have gl := gR.len
      have hat : atI (as.map V.ref) (0 + (i : Int)) = some (.ref c) := by
        rw [Int.zero_add]
        exact atI_nat (by rw [List.getElem?_map, hc]; rfl)
      refine ⟨.int p, rfl, .int 0, rfl, .ref d, rfl, .int p, rfl, .ref a, rfl, .int (0 + (i : Int)), rfl, a, _, _, .ref c, rfl, rfl, SqL.of (s1 _ _ ha), hat, c, _, rfl, .inr (SqT.of (s1 _ _ hb)), fun l nl => ?_⟩
      have sl := same_upd (o := .lst (bs.map V.ref)) nl
      refine ⟨p, l, R, rfl, hp0, ⟨bs, upd_same, pairs_keep (Tk.trans (Tk.same s1) (Tk.same sl)) pb⟩, by omega, fun H2 r T s2 cT vT hT => ?_⟩
      have eT : T = R := canon_ext cT gR.can fun x => by rw [vT, canon_sum gR.can, canon_mod hp0 gR.can]
      subst eT
      refine ⟨.int (0 + (i : Int)), rfl, le_line (by show 2 ≤ 1000000; decide), fun k1 nk1 => ⟨le_line (by show 2 ≤ 1000000; decide), fun k2 nk2 => ⟨le_line (by show 1 ≤ 1000000; decide), fun k3 nk3 => ⟨le_line (by show 2 ≤ 1000000; decide), fun k4 nk4 => ?_⟩⟩⟩⟩
      have q1 := same_upd (o := .tup [.int (0 + (i : Int)), .int 0]) nk1
      have q2 := same_upd (o := .tup [.ref k1, .int 1]) nk2
      have q3 := same_upd (o := .tup [.ref k2]) nk3
      have q4 := same_upd (o := .tup [.ref r, .ref k3]) nk4
      have s4 := ((q1.trans q2).trans q3).trans q4
      have hst : OneAt (upd (upd (upd (upd H2 k1 (.tup [.int (0 + (i : Int)), .int 0])) k2 (.tup [.ref k1, .int 1])) k3 (.tup [.ref k2])) k4 (.tup [.ref r, .ref k3])) k4 T := by
        refine ⟨r, k3, [((0 + (i : Int), 0), 1)], upd_same, hT.same s4, ⟨[k2], q4 _ _ upd_same, .cons ⟨k1, q4 _ _ (q3 _ _ upd_same), q4 _ _ (q3 _ _ (q2 _ _ upd_same))⟩ .nil⟩, ⟨by simp, fun z hz' => ?_⟩⟩
        rw [List.mem_singleton.mp hz']
        exact ⟨by show (0 : Int) ≤ 0 + (i : Int); omega, by show 0 + (i : Int) < 16; omega, rfl⟩
      have s14 := (sl.trans s2).trans s4
      refine ⟨p, d, k4, S, T, rfl, hp, gR, hst, hS.same s14, hE, fun H5 S5 b5 hS5 hE5 sp5 => ?_⟩
      -- settle
      refine ⟨.int p, rfl, .int 0, rfl, .ref d, rfl, p, d, S5, rfl, hp, hS5, hE5, fun H6 S6 b6 hS6 hE6 sp6 => ?_⟩
      refine ⟨S6, _, rfl, But.of_new (s1.trans s14) nd (b5.trans b6), hS6, hE6, sp6.trans (sp5.trans ((SpEq.cons T sp).trans (SpEq.mem fun v => ?_)))⟩
      rw [take_snoc hR, List.mem_append, List.mem_cons, List.mem_singleton]
      exact Or.comm
    · rintro σ H1 ⟨S, v4, rfl, s1, ⟨kvs, hd, hS⟩, hE, sp⟩
      rw [eas, List.take_length] at sp
      have hSl := hE.len
      have ekv := paired_len hS
      -- columns = sorted(steps)
      refine ⟨.ref d, rfl, d, _, kvs.map (·.1), rfl, .inl hd, by rw [map_re_keys], by rw [List.length_map]; omega, fun ys c pm pw nc => ?_⟩
      rw [steps_keys hS] at pm
      obtain ⟨S', pS, eys⟩ := perm_back pm rfl
      subst eys
      have hinc := inc_of pw (pm.nodup_iff.mpr hE.nd)
      have hS'l : S'.length ≤ 13 := by rw [pS.length_eq]; exact hSl
      have hech : SEch p S' := sech_of hinc fun q hq => hE.lead q (pS.mem_iff.mp hq)
      have hsp : SpEq p (S'.map (·.2)) Rs := SpEq.trans (SpEq.mem fun v => (pS.map (·.2)).mem_iff) sp
      have s2 : Same H1 (upd H1 c (.lst ((S'.map (·.1)).map V.int))) := same_upd nc
      have hc2 : (upd H1 c (.lst ((S'.map (·.1)).map V.int))) c = some (.lst ((S'.map (·.1)).map V.int)) := upd_same
      have hd2 := s2 _ _ hd
      generalize upd H1 c (.lst ((S'.map (·.1)).map V.int)) = H2 at s2 hc2 hd2
      have look : ∀ (H3 : Hp), Same H2 H3 → ∀ {i : Nat} {x : V}, ((S'.map (·.1)).map V.int)[i]? = some x → ∃ r o, S'[i]? = some r ∧ x = .int r.1 ∧ DGet H3 d x (some (.ref o)) ∧ OneAt H3 o r.2 := fun H3 h3 {i x} hx => by
        rw [List.map_map, List.getElem?_map] at hx
        cases e : S'[i]? with
        | none => rw [e] at hx; cases hx
        | some r =>
          rw [e] at hx
          have ex : x = .int r.1 := (Option.some.inj hx).symm
          have hr' : r ∈ S := pS.mem_iff.mp (List.mem_of_getElem? e)
          obtain ⟨o, R, ev, hR, ho⟩ := (steps_look r.1 (steps_keep (Tk.same (s2.trans h3)) hS)).resolve_left fun z => z.2 (List.mem_map.mpr ⟨r, hr', rfl⟩)
          have eR : R = r.2 := key_one hE.nd hR (by exact hr')
          rw [eR] at ho
          have := DGet.k (k := Sum.inl r.1) (h3 _ _ hd2)
          rw [valV_re sinl_inj, ev] at this
          exact ⟨r, o, rfl, ex, by rw [ex]; exact this, ho⟩
      -- stairs
      refine ⟨.ref c, rfl, c, rfl, ⟨_, SqL.of hc2⟩, fun D nD => lc_list (K := K) (a := c) (xs := (S'.map (·.1)).map V.int) (fun i H3 => ∃ bs : List Addr, Same H2 H3 ∧ H3 D = some (.lst (bs.map V.ref)) ∧ Paired (fun b (q : Int × Pat) => PatAt H3 b q.2) bs (S'.take i))
        ⟨[], same_upd nD, upd_same, .nil⟩ (fun i H3 _ ⟨_, s3, _⟩ => SqL.of (s3 _ _ hc2)) ?_ ?_⟩
      · rintro i x H3 hx ⟨bs, s3, hD, pb⟩
        obtain ⟨r, o, hr', ex, g, ho⟩ := look H3 s3 hx
        subst ex
        obtain ⟨po, mo, M, eo, Po, Ko, ko⟩ := ho
        have s4 : Same H2 (upd H3 D (.lst (bs.map V.ref ++ [V.ref po]))) := same_put s3 nD
        have tk : Tk H3 (upd H3 D (.lst (bs.map V.ref ++ [V.ref po]))) := tk_upd fun xs z => by rw [hD] at z; cases z
        refine ⟨rfl, .ref d, rfl, .int r.1, rfl, d, .ref o, rfl, g, o, _, 0, .ref po, rfl, rfl, SqT.of eo, rfl, _, hD, ?_, bs ++ [po], s4, by rw [upd_same, List.map_append]; rfl, ?_⟩
        · have a1 := paired_len pb
          rw [List.length_take] at a1
          rw [List.length_map]
          exact lt_line (by omega)
        · rw [take_snoc hr']
          exact paired_app (Paired.mapP pb fun _ _ z => z.keep tk) (.cons (Po.keep tk) .nil)
      · rintro H3 ⟨bs, s3, hD, pb⟩
        rw [List.length_map, List.length_map, List.take_length] at pb
        refine ⟨D, _, rfl, .inl ⟨SqL.of hD, fun sa na => ?_⟩⟩
        have s4 := same_upd (o := .tup (bs.map V.ref)) na
        have hsa : StairsAt (upd H3 sa (.tup (bs.map V.ref))) sa S' := ⟨bs, upd_same, Paired.mapP pb fun _ _ z => z.same s4⟩
        generalize upd H3 sa (.tup (bs.map V.ref)) = H4 at s4 hsa
        have s24 := s3.trans s4
        -- the parts
        refine ⟨.ref sa, rfl, .ref c, rfl, c, rfl, ⟨_, SqL.of (s24 _ _ hc2)⟩, fun D2 nD2 => lc_list (K := K) (a := c) (xs := (S'.map (·.1)).map V.int) (fun i H5 => ∃ ps : List V, Same H4 H5 ∧ H5 D2 = some (.lst ps) ∧ ps.length = (S'.take i).length)
          ⟨[], same_upd nD2, upd_same, rfl⟩ (fun i H5 _ ⟨_, s5, _⟩ => SqL.of (s5 _ _ (s24 _ _ hc2))) ?_ ?_⟩
        · rintro i x H5 hx ⟨ps, s5, hD2, pl⟩
          obtain ⟨r, o, hr', ex, g, ho⟩ := look H5 (s24.trans s5) hx
          subst ex
          obtain ⟨po, mo, M, eo, Po, Ko, ko⟩ := ho
          refine ⟨rfl, .ref d, rfl, .int r.1, rfl, d, .ref o, rfl, g, o, _, 1, .ref mo, rfl, rfl, SqT.of eo, rfl, mo, M, rfl, Ko, by have := ko.len; omega, fun H6 l6 s6 => ?_⟩
          refine ⟨ps, s6 _ _ hD2, ?_, _, same_put (s5.trans s6) nD2, upd_same, ?_⟩
          · rw [pl, List.length_take]
            exact lt_line (by omega)
          · rw [take_snoc hr', List.length_append, List.length_append, pl]
            rfl
        · rintro H5 ⟨ps, s5, hD2, pl⟩
          refine ⟨le_line (by show 2 ≤ 1000000; decide), fun t nt => ?_⟩
          have s6 := same_upd (o := .tup [.ref sa, .ref D2]) nt
          have s46 := s5.trans s6
          exact q _ t sa D2 S' ((s1.trans s2).trans (s24.trans s46)) upd_same (hsa.keep (Tk.same s46)) hech hsp
end
end D24
set_option Elab.async false
set_option linter.all false
set_option maxRecDepth 100000
set_option maxHeartbeats 4000000
/-! What the law draws; its sums. -/
namespace D24
open PySem PySem.Spec PyProof.Rows L2
def DrawIs (H : Hp) (d : Addr) (ns : List Int) (l : Addr) (i b z : Int) : Prop := H d = some (.lst [.ref l, .int i, .int b, .int z]) ∧ H l = some (.lst (ns.map V.int)) ∧ l ≠ d ∧ 0 ≤ i ∧ 0 ≤ b ∧ 0 ≤ z ∧ z < 2147483647
def DrawAt (H : Hp) (d l : Addr) (ns : List Int) : Prop := ∃ i b z, DrawIs H d ns l i b z
theorem DrawAt.same {H H' : Hp} {d l : Addr} {ns : List Int} (s : Same H H') (h : DrawAt H d l ns) : DrawAt H' d l ns := by
  obtain ⟨i, b, z, h1, h2, r⟩ := h
  exact ⟨i, b, z, s _ _ h1, s _ _ h2, r⟩
theorem DrawAt.some {H : Hp} {d l : Addr} {ns : List Int} (h : DrawAt H d l ns) : ∃ xs, H d = some (.lst xs) := by
  obtain ⟨i, b, z, h1, _⟩ := h
  exact ⟨_, h1⟩
theorem DrawAt.tk {H H' : Hp} {d l : Addr} {ns : List Int} (h : DrawAt H d l ns) (b : But d H H') : Tk H H' := b.tk fun xs z => by
  obtain ⟨ys, e⟩ := h.some
  rw [e] at z
  cases z
theorem DrawAt.rows {H : Hp} {d l : Addr} {ns : List Int} (h : DrawAt H d l ns) : H l = Option.some (.lst (ns.map V.int)) ∧ l ≠ d := by
  obtain ⟨i, b, z, h1, h2, h3, _⟩ := h
  exact ⟨h2, h3⟩
theorem But.refl (d : Addr) (H : Hp) : But d H H := fun _ _ h _ => h
/-- a thing that stands beside the draw -/
theorem DrawAt.ne {H : Hp} {d l a : Addr} {ns : List Int} (h : DrawAt H d l ns) (n : H a = none) : a ≠ d := fun z => by
  obtain ⟨ys, e⟩ := h.some
  rw [z, e] at n
  cases n
section
variable {P : Program} {w : World} {K : PySem.W.Frag} {mg : Str → Option Value} {base : Heap}
/-! ### _law_begin -/
def spBegin (K : PySem.W.Frag) : Sp := fun vs H Q _ => ∃ (a : Addr) (ns : List Int), vs = [.ref a] ∧ SqL K H a (ns.map V.int) ∧ ns.length ≤ 63 ∧ ∀ H' d l, Same H H' → DrawAt H' d l ns → Q (.ref d) H'
theorem scBegin : FnScope ["_law_script"] ["_law_script"] (defScope sLBegin) := ⟨rfl, rfl, rfl, by decide +kernel, rfl, by decide +kernel, by decide +kernel⟩
theorem ok_begin {f : Addr} {fd : FuncData} {k : Nat} (F : Fun K "_law_begin" "_law_begin" sLBegin f fd) (m1 : mg "list" = none) : FnOk P w K mg base CX0 (k + 1) f fd ["_law_script"] (spBegin K) := by
  refine F.ok scBegin (fun vs H Q E h => ?_) (fun cdv A outer s H vs Q E hr h => ?_)
  · obtain ⟨a, ns, rfl, _⟩ := h
    rfl
  · obtain ⟨a, ns, rfl, hS, hlen, q⟩ := h
    refine ⟨_, pss_one (ps_ret (pe_lst (pa_cons (pe_callTy call_list_of (by rfl) m1 (by decide +kernel) (pa_cons (pe_slice sl_list (pv 0) po_none (po_some pe_int)) pa_nil)) (pa_cons pe_int (pa_cons pe_int (pa_cons pe_int pa_nil)))))), ?_⟩
    have hcut : cutV (ns.map V.int) none (some 63) = ns.map V.int := by
      unfold cutV
      rw [HT.sIx_none, show HT.sIx (ns.map V.int).length (ns.map V.int).length (some 63) = min 63 (ns.map V.int).length from HT.sIx_nat _ _ 63, List.drop_zero]
      exact List.take_of_length_le (by rw [List.length_map]; omega)
    refine ⟨.ref a, rfl, 63, rfl, a, _, rfl, hS, fun l1 n1 => ?_⟩
    rw [hcut]
    refine ⟨l1, _, rfl, .inl (SqL.of upd_same), fun l n2 => ⟨le_line (by show 4 ≤ 1000000; decide), fun d n3 => ?_⟩⟩
    have s3 := same_upd (o := .lst [.ref l, .int 0, .int 0, .int 11]) n3
    refine q _ d l (((same_upd n1).trans (same_upd n2)).trans s3) ⟨0, 0, 11, upd_same, s3 _ _ upd_same, ?_, by decide, by decide, by decide, by decide⟩
    exact ne_of_none (H := upd (upd H l1 (.lst (ns.map V.int))) l (.lst (ns.map V.int))) upd_same n3

/-! ### _law_take -/
def spTake : Sp := fun vs H Q _ => ∃ (d l : Addr) (m : Int) (ns : List Int), vs = [.ref d, .int m] ∧ 1 ≤ m ∧ m ≤ 1000 ∧ DrawAt H d l ns ∧ ∀ H' v, But d H H' → DrawAt H' d l ns → 0 ≤ v → v < m → Q (.int v) H'
theorem scTake : FnScope ["_law_draw", "_law_many", "_law_number", "_law_got"] ["_law_draw", "_law_many"] (defScope sLTake) := ⟨rfl, rfl, rfl, by decide +kernel, rfl, by decide +kernel, by decide +kernel⟩
theorem DrawIs.put {H : Hp} {d l : Addr} {ns : List Int} {i b z i' b' z' : Int} (h : DrawIs H d ns l i b z) (h1 : 0 ≤ i') (h2 : 0 ≤ b') (h3 : 0 ≤ z') (h4 : z' < 2147483647) : DrawIs (upd H d (.lst [.ref l, .int i', .int b', .int z'])) d ns l i' b' z' :=
  ⟨upd_same, by rw [upd_ne h.2.2.1]; exact h.2.1, h.2.2.1, h1, h2, h3, h4⟩
theorem mod_rng (a : Int) : 0 ≤ a % 2147483647 ∧ a % 2147483647 < 2147483647 := ⟨Int.emod_nonneg _ (by decide), Int.emod_lt_of_pos _ (by decide)⟩
theorem ok_take {f : Addr} {fd : FuncData} {k : Nat} (F : Fun K "_law_take" "_law_take" sLTake f fd) (m1 : mg "len" = none) (m2 : mg "abs" = none) : FnOk P w K mg base CX0 (k + 1) f fd ["_law_draw", "_law_many"] spTake := by
  refine F.ok scTake (fun vs H Q E h => ?_) (fun cdv A outer s H vs Q E hr h => ?_)
  · obtain ⟨d, l, m, ns, rfl, _⟩ := h
    rfl
  · obtain ⟨d, l, m, ns, rfl, hm1, hm2, ⟨i, b, z, hD⟩, q⟩ := h
    refine ⟨_, C8.pss_cut (ps_if (PW.pt (pw_and (pt_cmpR op_lt (pe_ix ix_list (pv 0) pe_int (fun _ _ => rfl)) (pv 1) (nomark _)) (pw_and1 (pt_cmpR op_lt (pe_ix ix_list (pv 0) pe_int (fun _ _ => rfl)) (pe_callB call_len_seq (by rfl) m1 PySem.boot_len (pa_cons (pe_ix ix_list (pv 0) pe_int (fun _ _ => rfl)) pa_nil)) (nomark _)))))
        (pss_cons (ps_set (i := 2) scTake.nd rfl (.inl rfl) (pe_ix ix_list (pe_ix ix_list (pv 0) pe_int (fun _ _ => rfl)) (pe_ix ix_list (pv 0) pe_int (fun _ _ => rfl)) (fun _ _ => rfl)))
        (pss_cons (ps_asg (pe_op op_add (pe_ix ix_list (pv 0) pe_int (fun _ _ => rfl)) pe_int) (pg_sub (pv 0) pe_int set_list))
        (pss_cons (ps_asg pe_int (pg_sub (pv 0) pe_int set_list))
        (pss_one (ps_if (pt_cmpR op_ge (pe_callB call_abs (by rfl) m2 (by decide +kernel) (pa_cons (pv 2) pa_nil)) (pe_op op_pow pe_int pe_int) (nomark _))
          (pss_one (ps_asg (pe_callB call_abs (by rfl) m2 (by decide +kernel) (pa_cons (pv 2) pa_nil)) (pg_sub (pv 0) pe_int set_list)))
          (pss_one (ps_asg (pe_op op_mod (pe_op op_add (pe_op op_add (pe_op op_mul (pe_ix ix_list (pv 0) pe_int (fun _ _ => rfl)) pe_int) (pe_op op_mul (pe_op op_mod (pv 2) pe_int) pe_int)) pe_int) pe_int) (pg_sub (pv 0) pe_int set_list)))))))) pss_nil)
      (pss_cons (ps_if (pt_cmpR op_ge (pe_ix ix_list (pv 0) pe_int (fun _ _ => rfl)) (pv 1) (nomark _))
        (pss_cons (ps_set (i := 3) scTake.nd rfl (.inl rfl) (pe_op op_mod (pe_ix ix_list (pv 0) pe_int (fun _ _ => rfl)) (pv 1)))
        (pss_cons (ps_asg (pe_op op_fdiv (pe_ix ix_list (pv 0) pe_int (fun _ _ => rfl)) (pv 1)) (pg_sub (pv 0) pe_int set_list))
        (pss_one (ps_ret (pv 3))))) pss_nil)
      (pss_cons (ps_asg (pe_op op_mod (pe_op op_add (pe_op op_mul (pe_ix ix_list (pv 0) pe_int (fun _ _ => rfl)) pe_int) pe_int) pe_int) (pg_sub (pv 0) pe_int set_list))
      (pss_one (ps_ret (pe_op op_mod (pe_op op_fdiv (pe_ix ix_list (pv 0) pe_int (fun _ _ => rfl)) pe_int) (pv 1)))))), ?_⟩
    refine ⟨fun σ' H' => ∃ (v2 : Option V) (i b z : Int), σ' = [some (.ref d), some (.int m), v2, none] ∧ But d H H' ∧ DrawIs H' d ns l i b z, ?_, ?_⟩
    · obtain ⟨e1, e2, nld, i0, b0, z0, z1⟩ := id hD
      refine ⟨.ref d, rfl, d, _, 2, .int b, rfl, rfl, SqL.of e1, rfl, .int m, rfl, _, _, rfl, rfl, _, rfl, ite2 (fun c1 => ?_) (fun c1 => iteF ?_)⟩
      · refine ⟨.ref d, rfl, d, _, 1, .int i, rfl, rfl, SqL.of e1, rfl, .ref d, rfl, d, _, 0, .ref l, rfl, rfl, SqL.of e1, rfl, l, _, rfl, .inl (SqL.of e2), _, _, rfl, rfl, _, rfl, ite2 (fun c2 => ?_) (fun c2 => ?_)⟩
        · have hi : i < (ns.length : Int) := by
            have := of_decide_eq_true c2
            rw [List.length_map] at this
            exact this
          obtain ⟨n, hn⟩ : ∃ n, ns[i.toNat]? = some n := ⟨_, List.getElem?_eq_getElem (show i.toNat < ns.length by omega)⟩
          have hat : atI (ns.map V.int) i = some (.int n) := at_of (j := i.toNat) (by omega) (by rw [List.getElem?_map, hn]; rfl)
          refine ⟨.ref d, rfl, d, _, 0, .ref l, rfl, rfl, SqL.of e1, rfl, .ref d, rfl, d, _, 1, .int i, rfl, rfl, SqL.of e1, rfl, l, _, _, .int n, rfl, rfl, SqL.of e2, hat, ?_⟩
          -- draw[1] = draw[1] + 1; draw[2] = 0
          refine ⟨.ref d, rfl, d, _, 1, .int i, rfl, rfl, SqL.of e1, rfl, _, _, rfl, rfl, .ref d, rfl, d, _, 1, 1, rfl, rfl, e1, rfl, ?_⟩
          have D1 := hD.put (i' := i + 1) (b' := b) (z' := z) (by omega) b0 z0 z1
          refine ⟨.ref d, rfl, d, _, 2, 2, rfl, rfl, D1.1, rfl, ?_⟩
          have D2 := D1.put (i' := i + 1) (b' := 0) (z' := z) (by omega) (by decide) z0 z1
          have b2 : But d H (upd (upd H d (.lst [.ref l, .int (i + 1), .int b, .int z])) d (.lst [.ref l, .int (i + 1), .int 0, .int z])) := But.trans But.upd But.upd
          refine ⟨.int n, rfl, n, rfl, 10, 18, rfl, rfl, ⟨by decide, by decide, by decide⟩, _, _, rfl, rfl, _, rfl, ite2 (fun c3 => ?_) (fun c3 => ?_)⟩
          · refine ⟨.int n, rfl, n, rfl, .ref d, rfl, d, _, 2, 2, rfl, rfl, D2.1, rfl, ?_⟩
            exact ⟨_, i + 1, _, z, rfl, b2.trans But.upd, D2.put (by omega) (by split <;> omega) z0 z1⟩
          · have m1 := Int.emod_nonneg n (show (2147483629 : Int) ≠ 0 by decide)
            have m2 := Int.emod_lt_of_pos n (show (0 : Int) < 2147483629 by decide)
            refine ⟨.ref d, rfl, d, _, 3, .int z, rfl, rfl, SqL.of D2.1, rfl, _, _, rfl, rfl, .inr ⟨by decide, by decide⟩, .int n, rfl, _, _, rfl, rfl, (by show (0 : Int) < 2147483629; decide), _, _, rfl, rfl, .inr ⟨by decide, by decide⟩, _, _, rfl, rfl, _, _, rfl, rfl, _, _, rfl, rfl, (by show (0 : Int) < 2147483647; decide),
              .ref d, rfl, d, _, 3, 3, rfl, rfl, D2.1, rfl, ?_⟩
            exact ⟨_, i + 1, 0, _, rfl, b2.trans But.upd, D2.put (by omega) (by decide) (mod_rng _).1 (mod_rng _).2⟩
        · exact ⟨none, i, b, z, rfl, But.refl _ _, hD⟩
      · exact ⟨none, i, b, z, rfl, But.refl _ _, hD⟩
    · rintro σ' H' ⟨v2, i, b, z, rfl, bt, hD⟩
      obtain ⟨e1, e2, nld, i0, b0, z0, z1⟩ := id hD
      refine ⟨.ref d, rfl, d, _, 2, .int b, rfl, rfl, SqL.of e1, rfl, .int m, rfl, _, _, rfl, rfl, _, rfl, ite2 (fun c1 => ?_) (fun c1 => ?_)⟩
      · refine ⟨.ref d, rfl, d, _, 2, .int b, rfl, rfl, SqL.of e1, rfl, .int m, rfl, _, _, rfl, rfl, (by show 0 < m; omega), ?_⟩
        refine ⟨.ref d, rfl, d, _, 2, .int b, rfl, rfl, SqL.of e1, rfl, .int m, rfl, _, _, rfl, rfl, ⟨by omega, by omega⟩, .ref d, rfl, d, _, 2, 2, rfl, rfl, e1, rfl, ?_⟩
        refine ⟨_, rfl, q _ (b % m) (bt.trans But.upd) ⟨i, b / m, z, hD.put i0 (Int.ediv_nonneg b0 (by omega)) z0 z1⟩ (Int.emod_nonneg _ (by omega)) (Int.emod_lt_of_pos _ (by omega))⟩
      · refine ⟨.ref d, rfl, d, _, 3, .int z, rfl, rfl, SqL.of e1, rfl, _, _, rfl, rfl, .inr ⟨by decide, by decide⟩, _, _, rfl, rfl, _, _, rfl, rfl, (by show (0 : Int) < 2147483647; decide), .ref d, rfl, d, _, 3, 3, rfl, rfl, e1, rfl, ?_⟩
        have D2 := hD.put (i' := i) (b' := b) (z' := (z * 16807 + 2531011) % 2147483647) i0 b0 (mod_rng _).1 (mod_rng _).2
        refine ⟨.ref d, rfl, d, _, 3, _, rfl, rfl, SqL.of D2.1, rfl, _, _, rfl, rfl, ⟨by decide, by decide⟩, .int m, rfl, _, _, rfl, rfl, (by show 0 < m; omega), ?_⟩
        exact q _ _ (bt.trans But.upd) ⟨i, b, _, D2⟩ (Int.emod_nonneg _ (by omega)) (Int.emod_lt_of_pos _ (by omega))
end
end D24
set_option Elab.async false
set_option linter.all false
set_option maxRecDepth 100000
set_option maxHeartbeats 4000000
/-! The law's patterns and sums. -/
namespace D24
open PySem PySem.Spec PyProof.Rows L2
theorem sum_in {L : List (Int × Int)} {x : Int} (h : sumAt L x ≠ 0) : ∃ q ∈ L, q.1 = x := Classical.byContradiction fun z => h (sumAt_out fun q hq e => z ⟨q, hq, e⟩)
section
variable {P : Program} {w : World} {K : PySem.W.Frag} {mg : Str → Option Value} {base : Heap}
def spLPat : Sp := fun vs H Q _ => ∃ (d l : Addr) (p : Int) (ns : List Int), vs = [.ref d, .int p, .int 4, .int 6] ∧ Pr p ∧ DrawAt H d l ns ∧ ∀ H' a R, But d H H' → DrawAt H' d l ns → Good p R → PatAt H' a R → Q (.ref a) H'
theorem scLPat : FnScope ["_law_draw", "_law_p", "_law_most", "_law_far", "_law_pairs", "_law_k", "_law_place"] ["_law_draw", "_law_p", "_law_most", "_law_far"] (defScope sLPat) := ⟨rfl, rfl, rfl, by decide +kernel, rfl, by decide +kernel, by decide +kernel⟩
theorem ok_lpat {f fT fTi : Addr} {fd fdT fdTi : FuncData} {k : Nat} (F : Fun K "_law_pattern" "_law_pattern" sLPat f fd)
    (GT : FnOk P w K mg base CX0 k fT fdT ["_law_draw", "_law_many"] spTake) (AT : At K mg "_law_take" sLTake ["_law_draw", "_law_many"] fT fdT)
    (GTi : FnOk P w K mg base CX0 k fTi fdTi ["_law_p", "_law_pairs"] spTidy) (ATi : At K mg "_law_tidy" sLTidy ["_law_p", "_law_pairs"] fTi fdTi) (m1 : mg "range" = none) :
    FnOk P w K mg base CX0 (k + 1) f fd ["_law_draw", "_law_p", "_law_most", "_law_far"] spLPat := by
  refine F.ok scLPat (fun vs H Q E h => ?_) (fun cdv A outer s H vs Q E hr h => ?_)
  · obtain ⟨d, l, p, ns, rfl, _⟩ := h
    rfl
  · obtain ⟨d, l, p, ns, rfl, hp, hD, q⟩ := h
    have p25 : 2 ≤ p ∧ p ≤ 5 := by rcases hp with e | e | e <;> omega
    refine ⟨_, pss_cons (ps_set (i := 4) scLPat.nd rfl (.inl rfl) (pe_lst pa_nil))
      (pss_cons (ps_for PassesOwn.never rfl (pi_range1 (by rfl) m1 (pa_cons (pe_call GT hr (by rfl) AT.g AT.F.kp AT.b .nil pass0 (pa_cons (pv 0) (pa_cons (pe_op op_add (pv 2) pe_int) pa_nil))) pa_nil)) (pg_name (i := 5) scLPat.nd rfl (.inl rfl))
        (pss_cons (ps_set (i := 6) scLPat.nd rfl (.inl rfl) (pe_op op_sub (pe_call GT hr (by rfl) AT.g AT.F.kp AT.b .nil pass0 (pa_cons (pv 0) (pa_cons (pe_op op_add (pe_op op_mul pe_int (pv 3)) pe_int) pa_nil))) (pv 3)))
        (pss_one (ps_expr (pe_bm PySem.F.plainAttrs_list PySem.F.slot_list_append PySem.F.type_list_append mt_append (pv 4) (pa_cons (pe_tup (pa_cons (pv 6) (pa_cons (pe_op op_add pe_int (pe_call GT hr (by rfl) AT.g AT.F.kp AT.b .nil pass0 (pa_cons (pv 0) (pa_cons (pe_op op_sub (pv 1) pe_int) pa_nil)))) pa_nil))) pa_nil))))))
      (pss_one (ps_ret (pe_call GTi hr (by rfl) ATi.g ATi.F.kp ATi.b .nil pass0 (pa_cons (pv 1) (pa_cons (pv 4) pa_nil)))))), ?_⟩
    refine ⟨Nat.zero_le _, fun lp nlp => ?_⟩
    have nld := hD.ne nlp
    have s1 := same_upd (o := .lst []) nlp
    have hD1 := hD.same s1
    have hl1 : (upd H lp (.lst [])) lp = some (.lst []) := upd_same
    generalize upd H lp (.lst []) = H1 at s1 hD1 hl1
    -- range(take(draw, most + 1))
    refine ⟨.ref d, rfl, .int 4, rfl, _, _, rfl, rfl, d, l, 4 + 1, ns, rfl, by decide, by decide, hD1, fun H2 v b2 hD2 v0 v1 => ?_⟩
    refine ⟨v, rfl, by omega, by omega, for_range (lo := 0) (n := v.toNat) (fun i σ H3 => ∃ (v5 v6 : Option V) (bs : List Addr) (L : List (Int × Int)), σ = [some (.ref d), some (.int p), some (.int 4), some (.int 6), some (.ref lp), v5, v6] ∧ But d H H3 ∧ DrawAt H3 d l ns ∧ H3 lp = some (.lst (bs.map V.ref)) ∧ Paired (PairAt H3) bs L ∧ L.length = i ∧ ∀ q ∈ L, -6 ≤ q.1 ∧ q.1 ≤ 6)
      ⟨none, none, [], [], rfl, (But.same s1).trans b2, hD2, b2 _ _ hl1 nld, .nil, rfl, fun _ h => nomatch h⟩ ?_ ?_⟩
    · rintro i σ H3 hi ⟨v5, v6, bs, L, rfl, b3, hD3, hl3, pb, Ll, hL⟩
      refine ⟨.ref d, rfl, .int 6, rfl, 2, 6, rfl, rfl, .inl ⟨by decide, by decide⟩, _, _, rfl, rfl, d, l, 2 * 6 + 1, ns, rfl, by decide, by decide, hD3, fun H4 pl b4 hD4 p0 p1 => ?_⟩
      refine ⟨.int 6, rfl, _, _, rfl, rfl, ?_⟩
      have hl4 := b4 _ _ hl3 nld
      refine ⟨.ref lp, rfl, .inl ⟨rfl, _, SqL.of hl4⟩, .int (pl - 6), rfl, .ref d, rfl, .int p, rfl, _, _, rfl, rfl, d, l, p - 1, ns, rfl, by omega, by omega, hD4, fun H5 st b5 hD5 t0 t1 => ?_⟩
      have hl5 := b5 _ _ hl4 nld
      refine ⟨1, st, rfl, rfl, le_line (by show 2 ≤ 1000000; decide), fun t nt => ?_⟩
      have nlt : lp ≠ t := ne_of_none hl5 nt
      have s6 := same_upd (o := .tup [.int (pl - 6), .int (1 + st)]) nt
      have tk : Tk H3 (upd H5 t (.tup [.int (pl - 6), .int (1 + st)])) := ((hD3.tk b4).trans (hD4.tk b5)).trans (Tk.same s6)
      have hl6 := s6 _ _ hl5
      have hD6 := hD5.same s6
      have ht6 : PairAt (upd H5 t (.tup [.int (pl - 6), .int (1 + st)])) t (pl - 6, 1 + st) := upd_same
      have b6 : But d H (upd H5 t (.tup [.int (pl - 6), .int (1 + st)])) := ((b3.trans b4).trans b5).trans (But.same s6)
      refine ⟨lp, _, _, rfl, rfl, hl6, ?_, ?_⟩
      · rw [List.length_map, paired_len pb, Ll]
        exact lt_line (by omega)
      · show ∃ _, _
        have tk7 : Tk (upd H5 t (.tup [.int (pl - 6), .int (1 + st)])) (upd (upd H5 t (.tup [.int (pl - 6), .int (1 + st)])) lp (.lst (bs.map V.ref ++ [.ref t]))) := tk_upd fun xs z => by rw [hl6] at z; cases z
        refine ⟨_, _, bs ++ [t], L ++ [(pl - 6, 1 + st)], rfl, fun b o e n => ?_, ?_, by rw [upd_same, List.map_append]; rfl, ?_, by rw [List.length_append, Ll]; rfl, fun z hz => ?_⟩
        · by_cases eb : b = lp
          · rw [eb, nlp] at e
            cases e
          · rw [upd_ne eb]
            exact b6 _ _ e n
        · obtain ⟨a1, a2, a3, g1, g2, g3⟩ := hD6
          exact ⟨a1, a2, a3, by rw [upd_ne nld.symm]; exact g1, by rw [upd_ne (ne_of_none hD.rows.1 nlp)]; exact g2, g3⟩
        · exact paired_app (pairs_keep (tk.trans tk7) pb) (.cons (ht6.keep tk7) .nil)
        · rcases List.mem_append.mp hz with y | y
          · exact hL z y
          · rw [List.mem_singleton.mp y]
            exact ⟨by show -6 ≤ pl - 6; omega, by show pl - 6 ≤ 6; omega⟩
    · rintro σ H3 ⟨v5, v6, bs, L, rfl, b3, hD3, hl3, pb, Ll, hL⟩
      refine ⟨.int p, rfl, .ref lp, rfl, p, lp, L, rfl, hp.pos, ⟨bs, hl3, pb⟩, by omega, fun H4 a R s4 hc hv hR => ?_⟩
      refine q H4 a R (b3.trans (But.same s4)) (hD3.same s4) (good_of hc fun x hx => ?_) hR
      rw [hv] at hx
      obtain ⟨z, hz, e⟩ := sum_in (L := L) (x := x) fun y => by rw [y] at hx; exact hx (Int.zero_emod p)
      rw [← e]
      exact hL z hz
end
end D24
set_option Elab.async false
set_option linter.all false
set_option maxRecDepth 100000
set_option maxHeartbeats 4000000
/-! The law's patterns, one sum, what a pattern is. -/
namespace D24
open PySem PySem.Spec PyProof.Rows L2
theorem But.free {d a : Addr} {H H' : Hp} (b : But d H H') (h : H' a = none) (n : a ≠ d) : H a = none := by
  cases e : H a with
  | none => rfl
  | some o =>
    rw [b a o e n] at h
    cases h
section
variable {P : Program} {w : World} {K : PySem.W.Frag} {mg : Str → Option Value} {base : Heap}
def spLDraw : Sp := fun vs H Q _ => ∃ (d l : Addr) (p : Int) (ns : List Int), vs = [.ref d, .int p, .int 3] ∧ Pr p ∧ DrawAt H d l ns ∧ ∀ H' a Rs, But d H H' → DrawAt H' d l ns → PatsAt H' a Rs → H a = none → (∀ R ∈ Rs, Good p R) → Rs.length ≤ 3 → Q (.ref a) H'
theorem scLDraw : FnScope ["_law_draw", "_law_p", "_law_most", "_law_k"] ["_law_draw", "_law_p", "_law_most"] (defScope sLDraw) := ⟨rfl, rfl, rfl, by decide +kernel, rfl, by decide +kernel, by decide +kernel⟩
theorem ok_ldraw {f fT fP : Addr} {fd fdT fdP : FuncData} {k : Nat} (F : Fun K "_law_draw_patterns" "_law_draw_patterns" sLDraw f fd)
    (GT : FnOk P w K mg base CX0 k fT fdT ["_law_draw", "_law_many"] spTake) (AT : At K mg "_law_take" sLTake ["_law_draw", "_law_many"] fT fdT)
    (GP : FnOk P w K mg base CX0 k fP fdP ["_law_draw", "_law_p", "_law_most", "_law_far"] spLPat) (AP : At K mg "_law_pattern" sLPat ["_law_draw", "_law_p", "_law_most", "_law_far"] fP fdP) (m1 : mg "range" = none) :
    FnOk P w K mg base CX0 (k + 1) f fd ["_law_draw", "_law_p", "_law_most"] spLDraw := by
  refine F.ok scLDraw (fun vs H Q E h => ?_) (fun cdv A outer s H vs Q E hr h => ?_)
  · obtain ⟨d, l, p, ns, rfl, _⟩ := h
    rfl
  · obtain ⟨d, l, p, ns, rfl, hp, hD, q⟩ := h
    refine ⟨_, pss_one (ps_ret
      (pe_lc (own := [("_law_k", 3)]) (g := gName 3) rfl scLDraw.nd (pi_range1 (by rfl) m1 (pa_cons (pe_call GT hr (by rfl) AT.g AT.F.kp AT.b .nil pass0 (pa_cons (pv 0) (pa_cons (pe_op op_add (pv 2) pe_int) pa_nil))) pa_nil)) (blkOk_by (N := ["_law_draw", "_law_p", "_law_most", "_law_k"]) (sc := defScope sLDraw) (by decide +kernel))
        (fun _ _ _ _ _ => pg_name (i := 3) scLDraw.nd rfl (.inl rfl)) (fun _ _ _ _ _ => pts_nil)
        (fun _ _ _ _ _ => pe_call GP hr (by rfl) AP.g AP.F.kp AP.b .nil pass0 (pa_cons (pv 0) (pa_cons (pv 1) (pa_cons pe_int (pa_cons pe_int pa_nil))))))), ?_⟩
    refine ⟨.ref d, rfl, .int 3, rfl, _, _, rfl, rfl, d, l, 3 + 1, ns, rfl, by decide, by decide, hD, fun H1 v b1 hD1 v0 v1 => ?_⟩
    refine ⟨v, rfl, by omega, by omega, fun D nD => lc_range (lo := 0) (n := v.toNat) (fun i H2 => ∃ (bs : List Addr) (Rs : List Pat), But d H H2 ∧ DrawAt H2 d l ns ∧ H2 D = some (.lst (bs.map V.ref)) ∧ Paired (PatAt H2) bs Rs ∧ (∀ R ∈ Rs, Good p R) ∧ Rs.length = i) ?_ ?_ ?_⟩
    · have s2 := same_upd (o := .lst []) nD
      exact ⟨[], [], b1.trans (But.same s2), hD1.same s2, upd_same, .nil, (fun _ h => nomatch h), rfl⟩
    · rintro i H2 hi ⟨bs, Rs, b2, hD2, hl2, pb, gR, Rl⟩
      have nDd : D ≠ d := hD1.ne nD
      refine ⟨rfl, .ref d, rfl, .int p, rfl, d, l, p, ns, rfl, hp, hD2, fun H3 a R b3 hD3 g3 hR3 => ?_⟩
      have hl3 := b3 _ _ hl2 nDd
      have tk : Tk H3 (upd H3 D (.lst (bs.map V.ref ++ [.ref a]))) := tk_upd fun xs z => by rw [hl3] at z; cases z
      have tk2 := (hD2.tk b3).trans tk
      have nD0 : H D = none := b1.free nD nDd
      refine ⟨_, hl3, ?_, bs ++ [a], Rs ++ [R], fun b o e n => ?_, ?_, by rw [upd_same, List.map_append]; rfl, paired_app (Paired.mapP pb fun _ _ z => z.keep tk2) (.cons (hR3.keep tk) .nil), fun z hz => ?_, by rw [List.length_append, Rl]; rfl⟩
      · rw [List.length_map, paired_len pb, Rl]
        exact lt_line (by omega)
      · by_cases eb : b = D
        · rw [eb, nD0] at e
          cases e
        · rw [upd_ne eb]
          exact b3 _ _ (b2 _ _ e n) n
      · obtain ⟨a1, a2, a3, g1, g2, g4⟩ := hD3
        exact ⟨a1, a2, a3, by rw [upd_ne nDd.symm]; exact g1, by rw [upd_ne (ne_of_none hD1.rows.1 nD)]; exact g2, g4⟩
      · rcases List.mem_append.mp hz with y | y
        · exact gR z y
        · rw [List.mem_singleton.mp y]; exact g3
    · rintro H2 ⟨bs, Rs, b2, hD2, hl2, pb, gR, Rl⟩
      exact q H2 D Rs b2 hD2 ⟨bs, hl2, pb⟩ (b1.free nD (hD1.ne nD)) gR (by omega)

/-! ### _law_sum -/
def spLSum : Sp := fun vs H Q _ => ∃ (p : Int) (a b : Addr) (R S : Pat) (m : Int), vs = [.int p, .ref a, .ref b, .int 0, .int m] ∧ 0 < p ∧ Good p R ∧ Good p S ∧ PatAt H a R ∧ PatAt H b S ∧ -1000 ≤ m ∧ m ≤ 1000 ∧
  ∀ H' c T, Same H H' → Good p T → (∀ x, val T x = (val R x + m * val S x) % p) → PatAt H' c T → Q (.ref c) H'
theorem scLSum : FnScope ["_law_p", "_law_one", "_law_other", "_law_by", "_law_many", "_law_place", "_law_setting"] ["_law_p", "_law_one", "_law_other", "_law_by", "_law_many"] (defScope sLSum) := ⟨rfl, rfl, rfl, by decide +kernel, rfl, by decide +kernel, by decide +kernel⟩
theorem ok_lsum {f fT : Addr} {fd fdT : FuncData} {k : Nat} (F : Fun K "_law_sum" "_law_sum" sLSum f fd)
    (GT : FnOk P w K mg base CX0 k fT fdT ["_law_p", "_law_pairs"] spTidy) (AT : At K mg "_law_tidy" sLTidy ["_law_p", "_law_pairs"] fT fdT) (m1 : mg "list" = none) :
    FnOk P w K mg base CX0 (k + 1) f fd ["_law_p", "_law_one", "_law_other", "_law_by", "_law_many"] spLSum := by
  refine F.ok scLSum (fun vs H Q E h => ?_) (fun cdv A outer s H vs Q E hr h => ?_)
  · obtain ⟨p, a, b, R, S, m, rfl, _⟩ := h
    rfl
  · obtain ⟨p, a, b, R, S, m, rfl, hp, gR, gS, ⟨as, ha, hR⟩, ⟨bs0, hb, hS⟩, n1, n2, q⟩ := h
    have g1 := gR.len
    have g2 := gS.len
    have e1 := paired_len hR
    have e2 := paired_len hS
    refine ⟨_, pss_one (ps_ret (pe_call GT hr (by rfl) AT.g AT.F.kp AT.b .nil pass0 (pa_cons (pv 0) (pa_cons (pe_op op_cat (pe_callTy call_list_of (by rfl) m1 (by decide +kernel) (pa_cons (pv 1) pa_nil))
      (pe_lc (own := [("_law_place", 5), ("_law_setting", 6)]) (g := gTup K 2 (gCons (gName 5) (gCons (gName 6) gNil))) rfl scLSum.nd (pi_tup (pv 2)) (blkOk_by (N := ["_law_p", "_law_one", "_law_other", "_law_by", "_law_many", "_law_place", "_law_setting"]) (sc := defScope sLSum) (by decide +kernel))
        (fun _ _ _ _ _ => pg_tup rfl (pgs_cons (pg_name (i := 5) scLSum.nd rfl (.inl rfl)) (pgs_cons (pg_name (i := 6) scLSum.nd rfl (.inl rfl)) pgs_nil))) (fun _ _ _ _ _ => pts_nil)
        (fun _ _ _ _ _ => pe_tup (pa_cons (pe_op op_add (pv 5) (pv 3)) (pa_cons (pe_op op_mul (pv 6) (pv 4)) pa_nil))))) pa_nil)))), ?_⟩
    refine ⟨.int p, rfl, .ref a, rfl, a, _, rfl, .inr (SqT.of ha), fun l1 nl1 => ?_⟩
    have s1 := same_upd (o := .lst (as.map V.ref)) nl1
    have hl1 : (upd H l1 (.lst (as.map V.ref))) l1 = some (.lst (as.map V.ref)) := upd_same
    generalize upd H l1 (.lst (as.map V.ref)) = H1 at s1 hl1
    refine ⟨.ref b, rfl, b, rfl, ⟨_, SqT.of (s1 _ _ hb)⟩, fun D nD => lc_tup (K := K) (a := b) (xs := bs0.map V.ref) (fun i H2 => ∃ bs : List Addr, Same H1 H2 ∧ H2 D = some (.lst (bs.map V.ref)) ∧ Paired (PairAt H2) bs ((S.take i).map fun q => (q.1, q.2 * m)))
      ⟨[], same_upd nD, upd_same, .nil⟩ (fun i H2 _ ⟨_, s2, _⟩ => SqT.of (s2 _ _ (s1 _ _ hb))) ?_ ?_⟩
    · rintro i x H2 hx ⟨bs, s2, hD, pb⟩
      obtain ⟨c, hc, rfl⟩ := ref_at hx
      obtain ⟨r, hr', pr⟩ := paired_at hS hc
      refine ⟨c, [.int r.1, .int r.2], rfl, SqT.of (s2 _ _ (s1 _ _ pr)), rfl, _, _, rfl, _, _, rfl, rfl, rfl, .int r.1, rfl, .int 0, rfl, _, _, rfl, rfl, .int r.2, rfl, .int m, rfl, _, _, rfl, rfl, .inr (lt64 n1 n2), le_line (by show 2 ≤ 1000000; decide), fun t nt => ?_⟩
      have nDt : D ≠ t := ne_of_none hD nt
      refine ⟨_, by rw [upd_ne nDt]; exact hD, ?_, bs ++ [t], same_put (s2.trans (same_upd nt)) nD, by rw [upd_same, List.map_append]; rfl, ?_⟩
      · have a1 := paired_len pb
        rw [List.length_map, List.length_take] at a1
        rw [List.length_map]
        exact lt_line (by omega)
      · rw [take_snoc hr', List.map_append]
        refine paired_app (pairs_keep (Tk.trans (Tk.same (same_upd nt)) (tk_upd fun xs z => ?_)) pb) (.cons ?_ .nil)
        · rw [upd_ne nDt, hD] at z
          cases z
        · show (upd (upd H2 t _) D _) t = _
          rw [upd_ne nDt.symm, upd_same]
          show some (HO.tup [V.int (r.1 + 0), V.int (r.2 * m)]) = _
          rw [Int.add_zero]
    · rintro H2 ⟨bs, s2, hD, pb⟩
      rw [List.length_map, e2, List.take_length] at pb
      have e3 := paired_len pb
      rw [List.length_map] at e3
      refine ⟨l1, D, _, _, rfl, rfl, s2 _ _ hl1, hD, by rw [List.length_map, List.length_map]; exact le_line (by omega), fun l3 n3 => ?_⟩
      have s3 := same_upd (o := .lst (as.map V.ref ++ bs.map V.ref)) n3
      have s13 := (s1.trans s2).trans s3
      refine ⟨p, l3, R ++ S.map fun q => (q.1, q.2 * m), rfl, hp, ⟨as ++ bs, by rw [upd_same, List.map_append], paired_app (pairs_keep (Tk.same s13) hR) (pairs_keep (Tk.same s3) pb)⟩, by rw [List.length_append, List.length_map]; omega, fun H' c T s4 hc hv hT => ?_⟩
      have hv2 : ∀ x, val T x = (val R x + m * val S x) % p := fun x => by rw [hv, sumAt_append, sumAt_times, canon_sum gR.can, canon_sum gS.can, Int.mul_comm m]
      refine q H' c T (s13.trans s4) (good_of hc fun x hx => ?_) hv2 hT
      rw [hv2] at hx
      exact bd_comb gR.bd gS.bd x hx

/-! ### _law_int, _law_is_pattern -/
def spInt : Sp := fun vs H Q _ => ∃ i : Int, vs = [.int i] ∧ Q (.bl true) H
theorem scInt : FnScope ["_law_thing"] ["_law_thing"] (defScope sLInt) := ⟨rfl, rfl, rfl, by decide +kernel, rfl, by decide +kernel, by decide +kernel⟩
theorem ok_int {f : Addr} {fd : FuncData} {k : Nat} (F : Fun K "_law_int" "_law_int" sLInt f fd) (m1 : mg "isinstance" = none) (m2 : mg "int" = none) (m3 : mg "bool" = none) : FnOk P w K mg base CX0 (k + 1) f fd ["_law_thing"] spInt := by
  refine F.ok scInt (fun vs H Q E h => ?_) (fun cdv A outer s H vs Q E hr h => ?_)
  · obtain ⟨i, rfl, _⟩ := h
    rfl
  · obtain ⟨i, rfl, q⟩ := h
    refine ⟨_, pss_one (ps_ret (pe_and (pe_callB call_isi (by rfl) m1 (by decide +kernel) (pa_cons (pv 0) (pa_cons (pe_bltn (v := .ty "int") (by rfl) m2 PyProof.Rows.boot_int rfl) pa_nil)))
      (pe_one (pe_not (pe_callB call_isi (by rfl) m1 (by decide +kernel) (pa_cons (pv 0) (pa_cons (pe_bltn (v := .ty "bool") (by rfl) m3 PyProof.Rows.boot_bool rfl) pa_nil))))))), ?_⟩
    refine ⟨.int i, rfl, _, _, _, _, true, rfl, .ty "int", .base (.int i), kit_ty (by decide +kernel), true, rfl, iteT ?_⟩
    exact ⟨.int i, rfl, _, _, _, _, false, rfl, .ty "bool", .base (.int i), kit_ty (by decide +kernel), false, rfl, q⟩
def spIsPat : Sp := fun vs H Q _ => ∃ (p : Int) (a : Addr) (R : Pat), vs = [.int p, .ref a] ∧ PatAt H a R ∧ R.length ≤ 100 ∧ Canon p R ∧ Q (.bl true) H
theorem scIsPat : FnScope ["_law_p", "_law_thing", "_law_k", "_law_pair"] ["_law_p", "_law_thing"] (defScope sLIsPat) := ⟨rfl, rfl, rfl, by decide +kernel, rfl, by decide +kernel, by decide +kernel⟩
theorem ok_ispat {f fI : Addr} {fd fdI : FuncData} {k : Nat} (F : Fun K "_law_is_pattern" "_law_is_pattern" sLIsPat f fd)
    (GI : FnOk P w K mg base CX0 k fI fdI ["_law_thing"] spInt) (AI : At K mg "_law_int" sLInt ["_law_thing"] fI fdI) (m1 : mg "isinstance" = none) (m2 : mg "tuple" = none) (m3 : mg "len" = none) (m4 : mg "range" = none) :
    FnOk P w K mg base CX0 (k + 1) f fd ["_law_p", "_law_thing"] spIsPat := by
  refine F.ok scIsPat (fun vs H Q E h => ?_) (fun cdv A outer s H vs Q E hr h => ?_)
  · obtain ⟨p, a, R, rfl, _⟩ := h
    rfl
  · obtain ⟨p, a, R, rfl, ⟨as, ha, hR⟩, hlen, hc, q⟩ := h
    have eR := paired_len hR
    refine ⟨_, pss_cons (ps_if (pt_not (pt_val (pe_callB call_isi (by rfl) m1 (by decide +kernel) (pa_cons (pv 1) (pa_cons (pe_bltn (v := .ty "tuple") (by rfl) m2 PyProof.Rows.boot_tuple rfl) pa_nil))))) pss_never pss_nil)
      (pss_cons (ps_for PassesOwn.never rfl (pi_range1 (by rfl) m4 (pa_cons (pe_callB call_len_seq (by rfl) m3 PySem.boot_len (pa_cons (pv 1) pa_nil)) pa_nil)) (pg_name (i := 2) scIsPat.nd rfl (.inl rfl))
        (pss_cons (ps_set (i := 3) scIsPat.nd rfl (.inl rfl) (pe_ix ix_tup (pv 1) (pv 2) (fun _ _ => rfl)))
        (pss_cons (ps_if (PW.pt (pw_or (pt_not (pt_val (pe_callB call_isi (by rfl) m1 (by decide +kernel) (pa_cons (pv 3) (pa_cons (pe_bltn (v := .ty "tuple") (by rfl) m2 PyProof.Rows.boot_tuple rfl) pa_nil)))))
            (pw_or1 (pt_cmpR op_ne (pe_callB call_len_seq (by rfl) m3 PySem.boot_len (pa_cons (pv 3) pa_nil)) pe_int (nomark _))))) pss_never pss_nil)
        (pss_cons (ps_if (PW.pt (pw_or (pt_not (pt_val (pe_call GI hr (by rfl) AI.g AI.F.kp AI.b .nil pass0 (pa_cons (pe_ix ix_tup (pv 3) pe_int (fun _ _ => rfl)) pa_nil))))
            (pw_or (pt_not (pt_val (pe_call GI hr (by rfl) AI.g AI.F.kp AI.b .nil pass0 (pa_cons (pe_ix ix_tup (pv 3) pe_int (fun _ _ => rfl)) pa_nil))))
            (pw_or1 (pt_not (pt_chain op_lt op_lt pe_int (pe_ix ix_tup (pv 3) pe_int (fun _ _ => rfl)) (pv 0))))))) pss_never pss_nil)
        (pss_one (ps_if (PW.pt (pw_and (pt_cmpR op_gt (pv 2) pe_int (nomark _)) (pw_and1 (pt_cmpR op_ge (pe_ix ix_tup (pe_ix ix_tup (pv 1) (pe_op op_sub (pv 2) pe_int) (fun _ _ => rfl)) pe_int (fun _ _ => rfl)) (pe_ix ix_tup (pv 3) pe_int (fun _ _ => rfl)) (nomark _))))) pss_never pss_nil))))))
      (pss_one (ps_ret pe_bl))), ?_⟩
    refine ⟨.ref a, rfl, _, _, _, _, true, rfl, .ty "tuple", .base (.tup ha), kit_ty (by decide +kernel), true, rfl, iteF ?_⟩
    refine ⟨.ref a, rfl, a, _, rfl, .inr (SqT.of ha), as.length, by rw [List.length_map], by omega, by omega, for_range (lo := 0) (n := as.length) (fun i σ H1 => ∃ v2 v3 : Option V, σ = [some (.int p), some (.ref a), v2, v3] ∧ H1 = H) ⟨none, none, rfl, rfl⟩ ?_ ?_⟩
    · rintro i σ H1 hi ⟨v2, v3, rfl, rfl⟩
      obtain ⟨b, hb⟩ : ∃ b, as[i]? = some b := ⟨as[i], List.getElem?_eq_getElem hi⟩
      obtain ⟨r, hr', pr⟩ := paired_at hR hb
      have hpos := hc.pos r (List.mem_of_getElem? hr')
      have hat : atI (as.map V.ref) (0 + (i : Int)) = some (.ref b) := by
        rw [Int.zero_add]
        exact atI_nat (by rw [List.getElem?_map, hb]; rfl)
      refine ⟨.ref a, rfl, .int (0 + (i : Int)), rfl, a, _, _, .ref b, rfl, rfl, SqT.of ha, hat, ?_⟩
      refine ⟨.ref b, rfl, _, _, _, _, true, rfl, .ty "tuple", .base (.tup pr), kit_ty (by decide +kernel), true, rfl, iteF ?_⟩
      refine ⟨.ref b, rfl, b, _, rfl, .inr (SqT.of pr), rfl, _, rfl, iteF ?_⟩
      refine ⟨.ref b, rfl, b, _, 0, .int r.1, rfl, rfl, SqT.of pr, rfl, r.1, rfl, true, rfl, iteF ?_⟩
      refine ⟨.ref b, rfl, b, _, 1, .int r.2, rfl, rfl, SqT.of pr, rfl, r.2, rfl, true, rfl, iteF ?_⟩
      refine ⟨.ref b, rfl, b, _, 1, .int r.2, rfl, rfl, SqT.of pr, rfl, 0, r.2, rfl, rfl, _, rfl, ite2 (fun c1 => ?_) (fun c1 => absurd (decide_eq_true hpos.1) c1)⟩
      refine ⟨.int p, rfl, r.2, p, rfl, rfl, _, rfl, ?_⟩
      rw [decide_eq_true hpos.2]
      refine iteF ?_
      refine ⟨.int (0 + (i : Int)), rfl, _, _, rfl, rfl, _, rfl, ite2 (fun c2 => ?_) (fun c2 => iteF ⟨_, _, rfl, rfl⟩)⟩
      have hi0 : 0 < i := by
        have := of_decide_eq_true c2
        omega
      obtain ⟨b', hb'⟩ : ∃ b, as[i - 1]? = some b := ⟨_, List.getElem?_eq_getElem (show i - 1 < as.length by omega)⟩
      obtain ⟨r', hr'', pr'⟩ := paired_at hR hb'
      have hat' : atI (as.map V.ref) (0 + (i : Int) - 1) = some (.ref b') := at_of (j := i - 1) (by omega) (by rw [List.getElem?_map, hb']; rfl)
      have hlt : r'.1 < r.1 := by
        obtain ⟨i1, e1⟩ := List.getElem?_eq_some_iff.mp hr''
        obtain ⟨i2, e2⟩ := List.getElem?_eq_some_iff.mp hr'
        rw [← e1, ← e2]
        exact List.pairwise_iff_getElem.mp hc.inc _ _ i1 i2 (by omega)
      refine ⟨.ref a, rfl, .int (0 + (i : Int)), rfl, _, _, rfl, rfl, a, _, _, .ref b', rfl, rfl, SqT.of ha, hat', b', _, 0, .int r'.1, rfl, rfl, SqT.of pr', rfl, .ref b, rfl, b, _, 0, .int r.1, rfl, rfl, SqT.of pr, rfl, _, _, rfl, rfl, _, rfl,
        ite2 (fun c3 => absurd (of_decide_eq_true c3) (by omega)) (fun _ => ⟨_, _, rfl, rfl⟩)⟩
    · rintro σ H1 ⟨v2, v3, rfl, rfl⟩
      exact q
end
end D24
set_option Elab.async false
set_option linter.all false
set_option maxRecDepth 100000
set_option maxHeartbeats 4000000
/-! All sums of the law. -/
namespace D24
open PySem PySem.Spec PyProof.Rows L2
def sumP (p : Int) (R S : Pat) (c : Nat) : Pat := canonF p (fun x => val R x + (c : Int) * val S x)
theorem sumP_of {p : Int} (hp : 0 < p) {R S T : Pat} {c : Nat} (gR : Good p R) (gS : Good p S) (gT : Good p T) (h : ∀ x, val T x = (val R x + (c : Int) * val S x) % p) : T = sumP p R S c :=
  canon_ext gT.can (canonF_canon hp _) fun x => by rw [h, sumP, canonF_val (bd_comb gR.bd gS.bd)]
theorem en_cons {p : Int} {v : Pat} {vs : List Pat} {T : Pat} : T ∈ en p (v :: vs) ↔ ∃ R ∈ en p vs, ∃ c, c < p.toNat ∧ T = sumP p R v c := by
  rw [show en p (v :: vs) = (List.range p.toNat).flatMap fun (c : Nat) => (en p vs).map fun a => canonF p (fun x => val a x + (c : Int) * val v x) from rfl]
  unfold sumP
  constructor
  · intro h
    obtain ⟨c, hc, h⟩ := List.mem_flatMap.mp h
    obtain ⟨R, hR, e⟩ := List.mem_map.mp h
    exact ⟨R, hR, c, List.mem_range.mp hc, e.symm⟩
  · rintro ⟨R, hR, c, hc, e⟩
    exact List.mem_flatMap.mpr ⟨c, List.mem_range.mpr hc, List.mem_map.mpr ⟨R, hR, e.symm⟩⟩
theorem But.tkn {d : Addr} {H H' : Hp} {P : Program} {w : World} {xs : List (Pat × Addr)} (b : But d H H') (h : H d = some (NO P w d xs)) : Tk H H' := b.tk fun ys z => by
  rw [h] at z
  cases z
section
variable {P : Program} {w : World} {K : PySem.W.Frag} {mg : Str → Option Value} {base : Heap}
def spSums (P : Program) (w : World) : Sp := fun vs H Q _ => ∃ (p : Int) (a : Addr) (Rs : List Pat), vs = [.int p, .ref a] ∧ Pr p ∧ PatsAt H a Rs ∧ (∀ R ∈ Rs, Good p R) ∧ Rs.length ≤ 3 ∧
  ∀ H' d xs, Same H H' → H' d = some (NO P w d xs) → Keyed H' xs → (xs.map (·.1)).Nodup → (∀ T, T ∈ xs.map (·.1) ↔ T ∈ en p Rs.reverse) → Q (.ref d) H'
theorem scSums : FnScope ["_law_p", "_law_patterns", "_law_sums_here", "_law_pattern_here", "_law_more", "_law_one", "_law_many"] ["_law_p", "_law_patterns"] (defScope sLSums) := ⟨rfl, rfl, rfl, by decide +kernel, rfl, by decide +kernel, by decide +kernel⟩
theorem len_en {p : Int} (hp : Pr p) {A : List Pat} (hA : A.length ≤ 3) {xs : List (Pat × Addr)} (hn : (xs.map (·.1)).Nodup) (h : ∀ T, T ∈ xs.map (·.1) → T ∈ en p A) : xs.length ≤ 125 := by
  have h1 := nodup_sub_length hn h
  rw [en_length, List.length_map] at h1
  refine Nat.le_trans h1 ?_
  have h2 : p.toNat ≤ 5 := by rcases hp with e | e | e <;> omega
  exact Nat.le_trans (Nat.pow_le_pow_left h2 _) (Nat.le_trans (Nat.pow_le_pow_right (by decide) hA) (by decide))
theorem ok_sums {f fS : Addr} {fd fdS : FuncData} {k : Nat} (F : Fun K "_law_sums" "_law_sums" sLSums f fd)
    (GS : FnOk P w K mg base CX0 k fS fdS ["_law_p", "_law_one", "_law_other", "_law_by", "_law_many"] spLSum) (AS : At K mg "_law_sum" sLSum ["_law_p", "_law_one", "_law_other", "_law_by", "_law_many"] fS fdS) (m1 : mg "range" = none) :
    FnOk P w K mg base CX0 (k + 1) f fd ["_law_p", "_law_patterns"] (spSums P w) := by
  refine F.ok scSums (fun vs H Q E h => ?_) (fun cdv A outer s H vs Q E hr h => ?_)
  · obtain ⟨p, a, Rs, rfl, _⟩ := h
    rfl
  · obtain ⟨p, a, Rs, rfl, hp, ⟨as, ha, has⟩, gRs, hRl, q⟩ := h
    have hu := hu9 hr
    have hp0 := hp.pos
    have p5 : p ≤ 5 := by rcases hp with e | e | e <;> omega
    have eas := paired_len has
    refine ⟨_, pss_cons (ps_set (i := 2) scSums.nd rfl (.inl rfl) (pe_disp1 hu))
      (pss_cons (ps_for PassesOwn.never rfl (pi_list (pv 1)) (pg_name (i := 3) scSums.nd rfl (.inl rfl))
        (pss_cons (ps_set (i := 4) scSums.nd rfl (.inl rfl) pe_dnewN)
        (pss_cons (ps_lock (ps_for PassesOwn.never rfl (pi_keysN (pv 2)) (pg_name (i := 5) scSums.nd rfl (.inl rfl))
          (pss_one (ps_for PassesOwn.never rfl (pi_range1 (by rfl) m1 (pa_cons (pv 0) pa_nil)) (pg_name (i := 6) scSums.nd rfl (.inl rfl))
            (pss_one (ps_nput hu (pv 4) (pe_call GS hr (by rfl) AS.g AS.F.kp AS.b .nil pass0 (pa_cons (pv 0) (pa_cons (pv 5) (pa_cons (pv 3) (pa_cons pe_int (pa_cons (pv 6) pa_nil)))))) pe_bl rfl))))))
        (pss_one (ps_set (i := 2) scSums.nd rfl (.inl rfl) (pv 4))))))
      (pss_one (ps_ret (pv 2)))), ?_⟩
    intro d0 q0 nd0 nq0 ndq
    have s0 : Same H (upd (upd H q0 (.tup [])) d0 (NO P w d0 [([], q0)])) := same_put (same_upd nq0) nd0
    have hd0 : (upd (upd H q0 (.tup [])) d0 (NO P w d0 [([], q0)])) d0 = some (NO P w d0 [([], q0)]) := upd_same
    have hq0 : (upd (upd H q0 (.tup [])) d0 (NO P w d0 [([], q0)])) q0 = some (.tup []) := by rw [upd_ne ndq.symm, upd_same]
    refine ⟨.ref a, rfl, a, rfl, ⟨_, SqL.of (s0 _ _ ha)⟩, for_list (K := K) (a := a) (xs := as.map V.ref) (fun i σ H1 => ∃ (d : Addr) (xs : List (Pat × Addr)) (v3 v4 v5 v6 : Option V), σ = [some (.int p), some (.ref a), some (.ref d), v3, v4, v5, v6] ∧ Same H H1 ∧ H d = none ∧ H1 d = some (NO P w d xs) ∧ Keyed H1 xs ∧
        (xs.map (·.1)).Nodup ∧ ∀ T, T ∈ xs.map (·.1) ↔ T ∈ en p (Rs.take i).reverse)
      ⟨d0, [([], q0)], none, none, none, none, rfl, s0, nd0, hd0, fun x hx => ?_, by simp, fun T => by simp [en]⟩ (fun i σ H1 _ ⟨_, _, _, _, _, _, _, s1, _⟩ => SqL.of (s1 _ _ ha)) ?_ ?_⟩
    · rw [List.mem_singleton.mp hx]
      exact ⟨[], hq0, .nil⟩
    · rintro i y σ H1 hi ⟨d, xs, v3, v4, v5, v6, rfl, s1, nd, hd, hk, hn, hm⟩
      obtain ⟨c, hc, rfl⟩ := ref_at hi
      obtain ⟨R, hR, hRp⟩ := paired_at has hc
      have gR := gRs R (List.mem_of_getElem? hR)
      have gA : ∀ v ∈ (Rs.take i).reverse, Bd v := fun v hv => (gRs v (List.mem_of_mem_take (List.mem_reverse.mp hv))).bd
      have xl : xs.length ≤ 125 := len_en hp (A := (Rs.take i).reverse) (by rw [List.length_reverse, List.length_take]; omega) hn fun T hT => (hm T).mp hT
      have gx : ∀ x ∈ xs, Good p x.1 := fun x hx => by
        have := (en_mem hp0 gA).mp ((hm x.1).mp (List.mem_map.mpr ⟨x, hx, rfl⟩))
        exact ⟨this.1, this.2.1⟩
      -- more = {}
      intro e ne
      have nde : d ≠ e := ne_of_none hd ne
      have nHe : H e = none := s1.free ne
      have s2 := same_upd (o := NO P w e []) ne
      have he2 : (upd H1 e (NO P w e [])) e = some (NO P w e []) := upd_same
      have s02 := s1.trans s2
      have hk2 := hk.keep (Tk.same s2)
      have hd2 := s2 _ _ hd
      change gName 4 (.ref e) _ (upd H1 e (NO P w e [])) _
      generalize upd H1 e (NO P w e []) = H2 at s2 he2 s02 hk2 hd2
      -- the keys, locked
      refine ⟨d, NO P w d xs, hd2, True.intro, fun od => ?_⟩
      have b3 : But d H2 (upd H2 d (.frz od (NO P w d xs))) := But.upd
      have hd3 : (upd H2 d (.frz od (NO P w d xs))) d = some (.frz od (NO P w d xs)) := upd_same
      have he3 := b3 _ _ he2 nde.symm
      have tk3 := b3.tkn hd2
      have hk3 := hk2.keep tk3
      generalize upd H2 d (.frz od (NO P w d xs)) = H3 at b3 hd3 he3 tk3 hk3
      have hR3 : PatAt H3 c R := hRp.keep ((Tk.same s02).trans tk3)
      refine ⟨.ref d, rfl, d, od, xs, rfl, hd3, for_keysN (X := _) (d := d) (o := od) (xs := xs) (fun j σ H4 => ∃ (ys : List (Pat × Addr)) (v5 v6 : Option V), σ = [some (.int p), some (.ref a), some (.ref d), some (.ref c), some (.ref e), v5, v6] ∧ But e H3 H4 ∧ H4 e = some (NO P w e ys) ∧ Keyed H4 ys ∧ (ys.map (·.1)).Nodup ∧ ys.length ≤ j * 5 ∧
          ∀ T, T ∈ ys.map (·.1) ↔ ∃ x ∈ xs.take j, ∃ m, m < p.toNat ∧ T = sumP p x.1 R m)
        ⟨[], v5, v6, rfl, But.refl _ _, he3, Keyed.nil, List.nodup_nil, Nat.zero_le _, fun T => by simp⟩ (fun j σ H4 _ ⟨_, _, _, _, b4, _⟩ => b4 _ _ hd3 nde) ?_ ?_⟩
      · rintro j R1 b1 σ H4 hj ⟨ys, w5, w6, rfl, b4, he4, hk4, hn4, yl, hm4⟩
        have hjl : j < xs.length := (List.getElem?_eq_some_iff.mp hj).1
        have mj : (R1, b1) ∈ xs := List.mem_of_getElem? hj
        have g1 := gx _ mj
        refine ⟨.int p, rfl, p, rfl, by omega, by omega, for_range (lo := 0) (n := p.toNat) (fun m σ H5 => ∃ (ys : List (Pat × Addr)) (v6 : Option V), σ = [some (.int p), some (.ref a), some (.ref d), some (.ref c), some (.ref e), some (.ref b1), v6] ∧ But e H3 H5 ∧ H5 e = some (NO P w e ys) ∧ Keyed H5 ys ∧ (ys.map (·.1)).Nodup ∧ ys.length ≤ j * 5 + m ∧
            ∀ T, T ∈ ys.map (·.1) ↔ (∃ x ∈ xs.take j, ∃ m, m < p.toNat ∧ T = sumP p x.1 R m) ∨ ∃ m', m' < m ∧ T = sumP p R1 R m')
          ⟨ys, w6, rfl, b4, he4, hk4, hn4, by omega, fun T => by rw [hm4]; simp⟩ ?_ ?_⟩
        · rintro m σ H5 hmp ⟨ys, w6, rfl, b5, he5, hk5, hn5, yl5, hm5⟩
          have tk5 := b5.tkn he3
          refine ⟨.ref e, rfl, .int p, rfl, .ref b1, rfl, .ref c, rfl, .int (0 + (m : Int)), rfl, p, b1, c, R1, R, 0 + (m : Int), rfl, hp0, g1, gR, (hk3 _ mj).keep tk5, hR3.keep tk5, by omega, by omega, fun H6 t T s6 gT vT hT => ?_⟩
          have eT : T = sumP p R1 R m := sumP_of hp0 g1 gR gT fun x => by rw [vT, Int.zero_add]
          have he6 := s6 _ _ he5
          have hk6 := hk5.keep (Tk.same s6)
          refine ⟨e, ys, t, T, rfl, rfl, rfl, he6, hk6, hT, lt_line (by omega), ?_⟩
          have tk7 : Tk H6 (upd H6 e (NO P w e (nput ys T t))) := tk_upd fun zs z => by rw [he6] at z; cases z
          refine ⟨nput ys T t, _, rfl, (b5.trans (But.same s6)).trans But.upd, upd_same, nput_keyed (hk6.keep tk7) (hT.keep tk7), nput_nodup T t hn5, ?_, fun S => ?_⟩
          · have := nput_len ys T t
            omega
          · rw [nput_mem, hm5]
            constructor
            · rintro ((h | ⟨m', h1, h2⟩) | h)
              · exact .inl h
              · exact .inr ⟨m', by omega, h2⟩
              · exact .inr ⟨m, by omega, by rw [h, eT]⟩
            · rintro (h | ⟨m', h1, h2⟩)
              · exact .inl (.inl h)
              · by_cases em : m' = m
                · exact .inr (by rw [h2, eT, em])
                · exact .inl (.inr ⟨m', by omega, h2⟩)
        · rintro σ H5 ⟨ys, w6, rfl, b5, he5, hk5, hn5, yl5, hm5⟩
          refine ⟨ys, _, _, rfl, b5, he5, hk5, hn5, by omega, fun T => ?_⟩
          rw [hm5, take_snoc hj]
          constructor
          · rintro (⟨x, hx, m', h1, h2⟩ | ⟨m', h1, h2⟩)
            · exact ⟨x, List.mem_append.mpr (.inl hx), m', h1, h2⟩
            · exact ⟨(R1, b1), List.mem_append.mpr (.inr List.mem_cons_self), m', h1, h2⟩
          · rintro ⟨x, hx, m', h1, h2⟩
            rcases List.mem_append.mp hx with hx | hx
            · exact .inl ⟨x, hx, m', h1, h2⟩
            · rw [List.mem_singleton.mp hx] at h2
              exact .inr ⟨m', h1, h2⟩
      · rintro σ H4 ⟨ys, w5, w6, rfl, b4, he4, hk4, hn4, yl, hm4⟩
        rw [List.take_length] at hm4
        have hd4 := b4 _ _ hd3 nde
        refine ⟨hd4, ?_⟩
        have tk5 : Tk H4 (upd H4 d (NO P w d xs)) := tk_upd fun zs z => by rw [hd4] at z; cases z
        refine ⟨.ref e, rfl, e, ys, _, _, _, _, rfl, fun b o eb => ?_, nHe, by rw [upd_ne nde.symm]; exact he4, hk4.keep tk5, hn4, fun T => ?_⟩
        · have n1 : b ≠ d := ne_of_none eb nd
          have n2 : b ≠ e := ne_of_none eb nHe
          rw [upd_ne n1]
          exact b4 _ _ (b3 _ _ (s02 _ _ eb) n1) n2
        · rw [hm4, take_snoc hR, List.reverse_append]
          show _ ↔ T ∈ en p (R :: (Rs.take i).reverse)
          rw [en_cons]
          constructor
          · rintro ⟨x, hx, m, h1, h2⟩
            exact ⟨x.1, (hm x.1).mp (List.mem_map.mpr ⟨x, hx, rfl⟩), m, h1, h2⟩
          · rintro ⟨S, hS, m, h1, h2⟩
            obtain ⟨x, hx, ex⟩ := List.mem_map.mp ((hm S).mpr hS)
            exact ⟨x, hx, m, h1, by rw [ex]; exact h2⟩
    · rintro σ H1 ⟨d, xs, v3, v4, v5, v6, rfl, s1, nd, hd, hk, hn, hm⟩
      rw [List.length_map, eas, List.take_length] at hm
      exact ⟨.ref d, rfl, q H1 d xs s1 hd hk hn hm⟩
end
end D24
set_option Elab.async false
set_option linter.all false
set_option maxRecDepth 100000
set_option maxHeartbeats 8000000
/-! The law. -/
namespace D24
open PySem PySem.Spec PyProof.Rows L2
/-! ### patterns as data -/
def pdP (q : Int × Int) : PyData := .tuple [.int q.1, .int q.2]
def pd (R : Pat) : PyData := .tuple (R.map pdP)
theorem pd_dp {K : PySem.W.Frag} {H : Hp} {a : Addr} {R : Pat} (h : PatAt H a R) : Dp K H (.ref a) (pd R) := by
  obtain ⟨as, ha, hR⟩ := h
  refine .tup (SqT.of ha) ?_
  clear ha
  induction hR with
  | nil => exact .nil
  | cons r t ih =>
    rw [List.map_cons, List.map_cons]
    exact .cons (.tup (SqT.of r) (.cons (.int _) (.cons (.int _) .nil))) ih
theorem pdL_lay : ∀ R : Pat, PyData.canLayAll0 (R.map pdP) = true
  | [] => by simp [PyData.canLayAll0]
  | q :: R => by
    rw [List.map_cons, PyData.canLayAll0, pdL_lay R]
    simp [pdP, PyData.canLay0, PyData.canLayAll0]
theorem pdL_depth : ∀ R : Pat, PyData.depthAll (R.map pdP) ≤ 2
  | [] => by simp [PyData.depthAll]
  | q :: R => by
    have ih := pdL_depth R
    rw [List.map_cons, PyData.depthAll]
    have : (pdP q).depth ≤ 2 := by simp [pdP, PyData.depth, PyData.depthAll]
    omega
theorem pd_shaped (R : Pat) : SeqAt.shaped (pd R) = true := by
  unfold SeqAt.shaped
  rw [Bool.and_eq_true]
  refine ⟨?_, decide_eq_true ?_⟩
  · rw [pd, PyData.canLay0]
    exact pdL_lay R
  · rw [pd, PyData.depth]
    have := pdL_depth R
    omega
theorem pd_eqv (R : Pat) : PyData.eqv (pd R) (pd []) = decide (R = []) := by
  cases R with
  | nil => simp [pd, PyData.eqv, PyData.eqvAll]
  | cons q r => simp [pd, PyData.eqv, PyData.eqvAll]
/-! ### the patterns while the law draws -/
structure Held (H : Hp) (d l a : Addr) (ns : List Int) (as : List Addr) (Rs : List Pat) : Prop where
  dr : DrawAt H d l ns
  li : H a = some (.lst (as.map V.ref))
  pa : Paired (PatAt H) as Rs
theorem Held.but {H H' : Hp} {d l a : Addr} {ns : List Int} {as : List Addr} {Rs : List Pat} (h : Held H d l a ns as Rs) (n : a ≠ d) (b : But d H H') (dr : DrawAt H' d l ns) : Held H' d l a ns as Rs :=
  ⟨dr, b _ _ h.li n, Paired.mapP h.pa fun _ _ z => z.keep (h.dr.tk b)⟩
theorem paired_set {α β : Type} {G : α → β → Prop} {x : α} {y : β} (g : G x y) : ∀ {l : List α} {m : List β} (i : Nat), Paired G l m → Paired G (l.set i x) (m.set i y)
  | _, _, _, .nil => .nil
  | _, _, 0, .cons _ t => .cons g t
  | _, _, i + 1, .cons r t => .cons r (paired_set g i t)
theorem map_set_ref (as : List Addr) (i : Nat) (c : Addr) : (as.map V.ref).set i (.ref c) = (as.set i c).map V.ref := List.map_set.symm
theorem int_pow {p : Int} (hp : 0 ≤ p) (n : Nat) : (((p.toNat ^ n : Nat)) : Int) = p ^ n := by
  rw [Int.natCast_pow, Int.toNat_of_nonneg hp]
section
variable {P : Program} {w : World} {K : PySem.W.Frag} {mg : Str → Option Value} {base : Heap}
def spLaw (K : PySem.W.Frag) : Sp := fun vs H Q _ => ∃ (a : Addr) (ns : List Int), vs = [.ref a] ∧ SqL K H a (ns.map V.int) ∧ ns.length ≤ 63 ∧ ∀ H', Q (.bl true) H'
theorem scLaw : FnScope ["_law_script", "_law_draw", "_law_p", "_law_patterns", "_law_further", "_law_pattern_here", "_law_sums_here", "_law_found", "_law_stair", "_law_count", "_law_left"] ["_law_script"] (defScope sLaw) := ⟨rfl, rfl, rfl, by decide +kernel, rfl, by decide +kernel, by decide +kernel⟩
theorem ok_law {f fB fT fD fS fP fSs fBu fR fI : Addr} {fd fdB fdT fdD fdS fdP fdSs fdBu fdR fdI : FuncData} {k : Nat} (F : Fun K "law" "law" sLaw f fd)
    (GB : FnOk P w K mg base CX0 k fB fdB ["_law_script"] (spBegin K)) (AB : At K mg "_law_begin" sLBegin ["_law_script"] fB fdB)
    (GT : FnOk P w K mg base CX0 k fT fdT ["_law_draw", "_law_many"] spTake) (AT : At K mg "_law_take" sLTake ["_law_draw", "_law_many"] fT fdT)
    (GD : FnOk P w K mg base CX0 k fD fdD ["_law_draw", "_law_p", "_law_most"] spLDraw) (AD : At K mg "_law_draw_patterns" sLDraw ["_law_draw", "_law_p", "_law_most"] fD fdD)
    (GS : FnOk P w K mg base CX0 k fS fdS ["_law_p", "_law_one", "_law_other", "_law_by", "_law_many"] spLSum) (AS : At K mg "_law_sum" sLSum ["_law_p", "_law_one", "_law_other", "_law_by", "_law_many"] fS fdS)
    (GP : FnOk P w K mg base CX0 k fP fdP ["_law_draw", "_law_p", "_law_most", "_law_far"] spLPat) (AP : At K mg "_law_pattern" sLPat ["_law_draw", "_law_p", "_law_most", "_law_far"] fP fdP)
    (GSs : FnOk P w K mg base CX0 k fSs fdSs ["_law_p", "_law_patterns"] (spSums P w)) (ASs : At K mg "_law_sums" sLSums ["_law_p", "_law_patterns"] fSs fdSs)
    (GBu : FnOk P w K mg base CX0 k fBu fdBu ["p", "stride", "patterns"] spBuilt) (ABu : At K mg "built" sBuilt ["p", "stride", "patterns"] fBu fdBu)
    (GR : FnOk P w K mg base CX0 k fR fdR ["p", "stride", "stairs", "pattern"] spRest) (AR : At K mg "rest_of" sRest ["p", "stride", "stairs", "pattern"] fR fdR)
    (GI : FnOk P w K mg base CX0 k fI fdI ["_law_p", "_law_thing"] spIsPat) (AI : At K mg "_law_is_pattern" sLIsPat ["_law_p", "_law_thing"] fI fdI)
    (m1 : mg "len" = none) (m2 : mg "list" = none) (m3 : mg "isinstance" = none) (m4 : mg "tuple" = none) (m5 : mg "all" = none) :
    FnOk P w K mg base CX0 (k + 1) f fd ["_law_script"] (spLaw K) := by
  refine F.ok scLaw (fun vs H Q E h => ?_) (fun cdv A outer s H vs Q E hr h => ?_)
  · obtain ⟨a, ns, rfl, _⟩ := h
    rfl
  · obtain ⟨a0, ns, rfl, hS, hlen, q⟩ := h
    have hu := hu9 hr
    refine ⟨_, pss_cons (ps_set (i := 1) scLaw.nd rfl (.inl rfl) (pe_call GB hr (by rfl) AB.g AB.F.kp AB.b .nil pass0 (pa_cons (pv 0) pa_nil)))
      (pss_cons (ps_set (i := 2) scLaw.nd rfl (.inr rfl) (pe_ix ix_tup (pe_tup (pa_cons pe_int (pa_cons pe_int (pa_cons pe_int pa_nil)))) (pe_call GT hr (by rfl) AT.g AT.F.kp AT.b .nil pass0 (pa_cons (pv 1) (pa_cons pe_int pa_nil))) (fun _ _ => rfl)))
      (pss_cons (ps_set (i := 3) scLaw.nd rfl (.inl rfl) (pe_call GD hr (by rfl) AD.g AD.F.kp AD.b .nil pass0 (pa_cons (pv 1) (pa_cons (pv 2) (pa_cons pe_int pa_nil)))))
      (C8.pss_cut (ps_if (PW.pt (pw_and (pt_cmpR op_gt (pe_callB call_len_seq (by rfl) m1 PySem.boot_len (pa_cons (pv 3) pa_nil)) pe_int (nomark _)) (pw_and1 (pt_cmpR op_eq (pe_call GT hr (by rfl) AT.g AT.F.kp AT.b .nil pass0 (pa_cons (pv 1) (pa_cons pe_int pa_nil))) pe_int (nomark _)))))
        (pss_one (ps_asg (pe_call GS hr (by rfl) AS.g AS.F.kp AS.b .nil pass0 (pa_cons (pv 2) (pa_cons (pe_ix ix_list (pv 3) pe_int (fun _ _ => rfl)) (pa_cons (pe_ix ix_list (pv 3) pe_int (fun _ _ => rfl)) (pa_cons pe_int (pa_cons pe_int pa_nil)))))) (pg_sub (pv 3) pe_int set_list))) pss_nil)
      (pss_cons (ps_set (i := 4) scLaw.nd rfl (.inl rfl) (pe_call GP hr (by rfl) AP.g AP.F.kp AP.b .nil pass0 (pa_cons (pv 1) (pa_cons (pv 2) (pa_cons pe_int (pa_cons pe_int pa_nil))))))
      (C8.pss_cut (ps_if (pt_cmpR op_eq (pe_call GT hr (by rfl) AT.g AT.F.kp AT.b .nil pass0 (pa_cons (pv 1) (pa_cons pe_int pa_nil))) pe_int (nomark _))
        (pss_cons (ps_set (i := 4) scLaw.nd rfl (.inl rfl) (pe_tup pa_nil))
        (pss_one (ps_for PassesOwn.never rfl (pi_list (pv 3)) (pg_name (i := 5) scLaw.nd rfl (.inl rfl))
          (pss_one (ps_set (i := 4) scLaw.nd rfl (.inl rfl) (pe_call GS hr (by rfl) AS.g AS.F.kp AS.b .nil pass0 (pa_cons (pv 2) (pa_cons (pv 4) (pa_cons (pv 5) (pa_cons pe_int (pa_cons (pe_call GT hr (by rfl) AT.g AT.F.kp AT.b .nil pass0 (pa_cons (pv 1) (pa_cons (pv 2) pa_nil))) pa_nil)))))))))) ) pss_nil)
      (pss_cons (ps_set (i := 6) scLaw.nd rfl (.inl rfl) (pe_call GSs hr (by rfl) ASs.g ASs.F.kp ASs.b .nil pass0 (pa_cons (pv 2) (pa_cons (pv 3) pa_nil))))
      (pss_cons (ps_set (i := 7) scLaw.nd rfl (.inl rfl) (pe_call GBu hr (by rfl) ABu.g ABu.F.kp ABu.b .nil pass0 (pa_cons (pv 2) (pa_cons pe_int (pa_cons (pe_callTy call_list_of (by rfl) m2 (by decide +kernel) (pa_cons (pv 3) pa_nil)) pa_nil)))))
      (pss_cons (ps_if (PW.pt (pw_or (pt_not (pt_val (pe_callB call_isi (by rfl) m3 (by decide +kernel) (pa_cons (pv 7) (pa_cons (pe_bltn (v := .ty "tuple") (by rfl) m4 PyProof.Rows.boot_tuple rfl) pa_nil)))))
          (pw_or (pt_cmpR op_ne (pe_callB call_len_seq (by rfl) m1 PySem.boot_len (pa_cons (pv 7) pa_nil)) pe_int (nomark _))
          (pw_or1 (pt_not (pt_val (pe_callB call_isi (by rfl) m3 (by decide +kernel) (pa_cons (pe_ix ix_tup (pv 7) pe_int (fun _ _ => rfl)) (pa_cons (pe_bltn (v := .ty "tuple") (by rfl) m4 PyProof.Rows.boot_tuple rfl) pa_nil))))))))) pss_never pss_nil)
      (pss_cons (ps_if (pt_not (pt_val (pe_callB (cr_all rfl) (by rfl) m5 (by decide +kernel) (pa_cons
          (pe_lc (own := [("_law_stair", 8)]) (g := gName 8) rfl scLaw.nd (pi_tup (pe_ix ix_tup (pv 7) pe_int (fun _ _ => rfl))) (blkOk_by (N := ["_law_script", "_law_draw", "_law_p", "_law_patterns", "_law_further", "_law_pattern_here", "_law_sums_here", "_law_found", "_law_stair", "_law_count", "_law_left"]) (sc := defScope sLaw) (by decide +kernel))
            (fun _ _ _ _ _ => pg_name (i := 8) scLaw.nd rfl (.inl rfl)) (fun _ _ _ _ _ => pts_nil)
            (fun _ _ _ _ _ => pe_call GI hr (by rfl) AI.g AI.F.kp AI.b .nil pass0 (pa_cons (pv 2) (pa_cons (pv 8) pa_nil)))) pa_nil)))) pss_never pss_nil)
      (pss_cons (ps_set (i := 9) scLaw.nd rfl (.inl rfl) pe_int)
      (pss_cons (ps_for PassesOwn.never rfl (pi_tup (pe_ix ix_tup (pv 7) pe_int (fun _ _ => rfl))) (pg_name (i := 8) scLaw.nd rfl (.inl rfl))
        (pss_one (ps_set (i := 9) scLaw.nd rfl (.inl rfl) (pe_op op_mul (pv 9) (pv 2)))))
      (pss_cons (ps_if (pt_cmpR op_ne (pv 9) (pe_callB call_len_N (by rfl) m1 PySem.boot_len (pa_cons (pv 6) pa_nil)) (nomark _)) pss_never pss_nil)
      (pss_cons (ps_set (i := 10) scLaw.nd rfl (.inl rfl) (pe_call GR hr (by rfl) AR.g AR.F.kp AR.b .nil pass0 (pa_cons (pv 2) (pa_cons pe_int (pa_cons (pe_ix ix_tup (pv 7) pe_int (fun _ _ => rfl)) (pa_cons (pv 4) pa_nil))))))
      (pss_one (ps_ret (pe_and (pe_call GI hr (by rfl) AI.g AI.F.kp AI.b .nil pass0 (pa_cons (pv 2) (pa_cons (pv 10) pa_nil)))
        (pe_one (pe_cmpR op_eq (pe_cmpR (op_eqD hr.units) (pv 10) (pe_tup pa_nil) (nomark _)) (pe_cmp (pc_nin hu (pv 4) (pv 6)) rfl) (nomark _))))))))))))))))))), ?_⟩
    -- draw, p
    refine ⟨.ref a0, rfl, a0, ns, rfl, hS, hlen, fun H1 d l s1 hD1 => ?_⟩
    refine ⟨le_line (by show 3 ≤ 1000000; decide), fun tp ntp => ?_⟩
    have s2 := same_upd (o := .tup [.int 2, .int 3, .int 5]) ntp
    have htp : (upd H1 tp (.tup [.int 2, .int 3, .int 5])) tp = some (.tup [.int 2, .int 3, .int 5]) := upd_same
    refine ⟨.ref d, rfl, d, l, 3, ns, rfl, by decide, by decide, hD1.same s2, fun H2 v b2 hD2 v0 v1 => ?_⟩
    have htp2 := (hD1.same s2).tk b2 _ _ htp
    obtain ⟨p, hp, hpv⟩ : ∃ p, Pr p ∧ atI [V.int 2, V.int 3, V.int 5] v = some (.int p) := by
      have : v = 0 ∨ v = 1 ∨ v = 2 := by omega
      rcases this with rfl | rfl | rfl
      · exact ⟨2, .inl rfl, rfl⟩
      · exact ⟨3, .inr (.inl rfl), rfl⟩
      · exact ⟨5, .inr (.inr rfl), rfl⟩
    have hp0 := hp.pos
    have p25 : 2 ≤ p ∧ p ≤ 5 := by rcases hp with e | e | e <;> omega
    refine ⟨tp, _, v, .int p, rfl, rfl, SqT.of htp2, hpv, ?_⟩
    -- patterns
    refine ⟨.ref d, rfl, .int p, rfl, d, l, p, ns, rfl, hp, hD2, fun H3 a Rs b3 hD3 hPs na gRs hRl => ?_⟩
    obtain ⟨as, ha, has⟩ := hPs
    have nad : a ≠ d := hD2.ne na
    have nal : a ≠ l := fun z => by
      rw [z, hD2.rows.1] at na
      cases na
    have h3 : Held H3 d l a ns as Rs := ⟨hD3, ha, has⟩
    have eas := paired_len has
    -- one put to another
    refine ⟨fun σ' H' => ∃ (as : List Addr) (Rs : List Pat), σ' = [some (.ref a0), some (.ref d), some (.int p), some (.ref a), none, none, none, none, none, none, none] ∧ Held H' d l a ns as Rs ∧ (∀ R ∈ Rs, Good p R) ∧ Rs.length ≤ 3, ?_, ?_⟩
    · refine ⟨.ref a, rfl, a, _, rfl, .inl (SqL.of ha), _, _, rfl, rfl, _, rfl, ite2 (fun c1 => ?_) (fun _ => iteF ⟨as, Rs, rfl, h3, gRs, hRl⟩)⟩
      have hl2 : 1 < as.length := by
        have := of_decide_eq_true c1
        rw [List.length_map] at this
        omega
      refine ⟨.ref d, rfl, d, l, 2, ns, rfl, by decide, by decide, hD3, fun H4 v4 b4 hD4 _ _ => ?_⟩
      have h4 := h3.but nad b4 hD4
      refine ⟨rfl, _, rfl, ite2 (fun c2 => ?_) (fun _ => ⟨as, Rs, rfl, h4, gRs, hRl⟩)⟩
      obtain ⟨c0, hc0⟩ : ∃ c, as[0]? = some c := ⟨_, List.getElem?_eq_getElem (show 0 < as.length by omega)⟩
      obtain ⟨c1, hc1⟩ : ∃ c, as[1]? = some c := ⟨_, List.getElem?_eq_getElem hl2⟩
      obtain ⟨R0, hR0, P0⟩ := paired_at h4.pa hc0
      obtain ⟨R1, hR1, P1⟩ := paired_at h4.pa hc1
      have at0 : atI (as.map V.ref) 0 = some (.ref c0) := at_of (j := 0) rfl (by rw [List.getElem?_map, hc0]; rfl)
      have at1 : atI (as.map V.ref) 1 = some (.ref c1) := at_of (j := 1) rfl (by rw [List.getElem?_map, hc1]; rfl)
      refine ⟨.int p, rfl, .ref a, rfl, a, _, 1, .ref c1, rfl, rfl, SqL.of h4.li, at1, .ref a, rfl, a, _, 0, .ref c0, rfl, rfl, SqL.of h4.li, at0, p, c1, c0, R1, R0, 1, rfl, hp0, gRs R1 (List.mem_of_getElem? hR1), gRs R0 (List.mem_of_getElem? hR0), P1, P0, by decide, by decide, fun H5 c T s5 gT vT hT => ?_⟩
      have li5 := s5 _ _ h4.li
      have ixn : ixN (as.map V.ref).length 1 = some 1 := by
        unfold ixN
        rw [List.length_map, if_pos (by decide), if_pos (by omega)]
        rfl
      refine ⟨.ref a, rfl, a, _, 1, 1, rfl, rfl, li5, ixn, ?_⟩
      have tk : Tk H5 (upd H5 a (.lst ((as.map V.ref).set 1 (.ref c)))) := tk_upd fun xs z => by rw [li5] at z; cases z
      have hD5 := hD4.same s5
      refine ⟨as.set 1 c, Rs.set 1 T, rfl, ⟨?_, by rw [upd_same, map_set_ref], paired_set (hT.keep tk) 1 (Paired.mapP h4.pa fun _ _ z => z.keep (Tk.trans (Tk.same s5) tk))⟩, fun R hR => ?_, by rw [List.length_set]; exact hRl⟩
      · obtain ⟨x1, x2, x3, g1, g2, g3⟩ := hD5
        exact ⟨x1, x2, x3, by rw [upd_ne nad.symm]; exact g1, by rw [upd_ne nal.symm]; exact g2, g3⟩
      · rcases List.mem_or_eq_of_mem_set hR with y | y
        · exact gRs R y
        · rw [y]; exact gT
    clear h3 has eas gRs hRl ha hD3 b3
    rintro σ' H4 ⟨as, Rs, rfl, h4, gRs, hRl⟩
    have eas := paired_len h4.pa
    -- the further pattern
    refine ⟨.ref d, rfl, .int p, rfl, d, l, p, ns, rfl, hp, h4.dr, fun H5 f5 F5 b5 hD5 gF5 hF5 => ?_⟩
    have h5 := h4.but nad b5 hD5
    refine ⟨fun σ' H' => ∃ (fa : Addr) (Fu : Pat) (v5 : Option V), σ' = [some (.ref a0), some (.ref d), some (.int p), some (.ref a), some (.ref fa), v5, none, none, none, none, none] ∧ Held H' d l a ns as Rs ∧ Good p Fu ∧ PatAt H' fa Fu, ?_, ?_⟩
    · refine ⟨.ref d, rfl, d, l, 2, ns, rfl, by decide, by decide, hD5, fun H6 v6 b6 hD6 _ _ => ?_⟩
      have h6 := h5.but nad b6 hD6
      have hF6 := hF5.keep (hD5.tk b6)
      refine ⟨rfl, _, rfl, ite2 (fun c2 => ?_) (fun _ => ⟨f5, F5, none, rfl, h6, gF5, hF6⟩)⟩
      refine ⟨Nat.zero_le _, fun t nt => ?_⟩
      have s7 := same_upd (o := .tup []) nt
      have h7 := h6.but nad (But.same s7) (hD6.same s7)
      refine ⟨.ref a, rfl, a, rfl, ⟨_, SqL.of h7.li⟩, for_list (K := K) (a := a) (xs := as.map V.ref) (fun i σ H8 => ∃ (fa : Addr) (Fu : Pat) (v5 : Option V), σ = [some (.ref a0), some (.ref d), some (.int p), some (.ref a), some (.ref fa), v5, none, none, none, none, none] ∧ Held H8 d l a ns as Rs ∧ Good p Fu ∧ PatAt H8 fa Fu)
        ⟨t, [], none, rfl, h7, Good.nil, ⟨[], upd_same, .nil⟩⟩ (fun i σ H8 _ ⟨_, _, _, _, h8, _⟩ => SqL.of h8.li) ?_ (fun σ H8 h => h)⟩
      rintro i x σ H8 hi ⟨fa, Fu, v5, rfl, h8, gF, hF⟩
      obtain ⟨c, hc, rfl⟩ := ref_at hi
      obtain ⟨R, hR, PR⟩ := paired_at h8.pa hc
      refine ⟨.int p, rfl, .ref fa, rfl, .ref c, rfl, .ref d, rfl, .int p, rfl, d, l, p, ns, rfl, by omega, by omega, h8.dr, fun H9 v9 b9 hD9 v90 v91 => ?_⟩
      have tk9 := h8.dr.tk b9
      have h9 := h8.but nad b9 hD9
      refine ⟨p, fa, c, Fu, R, v9, rfl, hp0, gF, gRs R (List.mem_of_getElem? hR), hF.keep tk9, PR.keep tk9, by omega, by omega, fun H10 c10 T10 s10 g10 _ h10 => ?_⟩
      exact ⟨c10, T10, _, rfl, h9.but nad (But.same s10) (hD9.same s10), g10, h10⟩
    clear h5 hF5 gF5 hD5 b5
    rintro σ' H5 ⟨fa, Fu, v5, rfl, h5, gF, hF⟩
    -- all sums
    refine ⟨.int p, rfl, .ref a, rfl, p, a, Rs, rfl, hp, ⟨as, h5.li, h5.pa⟩, gRs, hRl, fun H6 ds xs s6 hds hks hns hms => ?_⟩
    -- built(p, 0, list(patterns))
    refine ⟨.int p, rfl, .ref a, rfl, a, _, rfl, .inl (SqL.of (s6 _ _ h5.li)), fun l7 nl7 => ?_⟩
    have s7 := same_upd (o := .lst (as.map V.ref)) nl7
    have s67 := s6.trans s7
    refine ⟨p, l7, Rs, rfl, hp, ⟨as, upd_same, Paired.mapP h5.pa fun _ _ z => z.same s67⟩, gRs, by omega, fun H8 t sa pl S s8 ht hsa hS hsp => ?_⟩
    have s78 := s7.trans s8
    have s58 := s6.trans s78
    have hF8 := hF.same s58
    have hds8 := s78 _ _ hds
    have hks8 := hks.keep (Tk.same s78)
    have hSl := hS.len
    obtain ⟨bs, hbs, hpb⟩ := id hsa
    have ebs := paired_len hpb
    -- the tests
    refine ⟨.ref t, rfl, _, _, _, _, true, rfl, .ty "tuple", .base (.tup ht), kit_ty (by decide +kernel), true, rfl, iteF ?_⟩
    refine ⟨.ref t, rfl, t, _, rfl, .inr (SqT.of ht), rfl, _, rfl, iteF ?_⟩
    refine ⟨.ref t, rfl, t, _, 0, .ref sa, rfl, rfl, SqT.of ht, rfl, _, _, _, _, true, rfl, .ty "tuple", .base (.tup hbs), kit_ty (by decide +kernel), true, rfl, iteF ?_⟩
    -- all are patterns
    refine ⟨.ref t, rfl, t, _, 0, .ref sa, rfl, rfl, SqT.of ht, rfl, sa, rfl, ⟨_, SqT.of hbs⟩, fun D nD => lc_tup (K := K) (a := sa) (xs := bs.map V.ref) (fun i H9 => Same H8 H9 ∧ H9 D = some (.lst ((List.replicate i true).map V.bl)))
      ⟨same_upd nD, upd_same⟩ (fun i H9 _ ⟨s9, _⟩ => SqT.of (s9 _ _ hbs)) ?_ ?_⟩
    · rintro i x H9 hx ⟨s9, hD9⟩
      obtain ⟨c, hc, rfl⟩ := ref_at hx
      obtain ⟨r, hr', pr⟩ := paired_at hpb hc
      have lr := hS.lead r (List.mem_of_getElem? hr')
      have hi : i < bs.length := (List.getElem?_eq_some_iff.mp hc).1
      refine ⟨rfl, .int p, rfl, .ref c, rfl, p, c, r.2, rfl, pr.same s9, by have := lr.good.len; omega, lr.can, _, hD9, ?_, same_put s9 nD, ?_⟩
      · rw [List.length_map, List.length_replicate]
        exact lt_line (by omega)
      · rw [upd_same, List.replicate_succ', List.map_append]
        rfl
    rintro H9 ⟨s9, hD9⟩
    refine ⟨D, _, rfl, SqL.of hD9, true, by
      rw [show (List.replicate (bs.map V.ref).length true).all id = true by simp], iteF ?_⟩
    have ht9 := s9 _ _ ht
    have hbs9 := s9 _ _ hbs
    have hF9 := hF8.same s9
    have hds9 := s9 _ _ hds8
    have hks9 := hks8.keep (Tk.same s9)
    -- p as often as there are stairs
    refine ⟨.ref t, rfl, t, _, 0, .ref sa, rfl, rfl, SqT.of ht9, rfl, sa, rfl, ⟨_, SqT.of hbs9⟩, for_tup (K := K) (a := sa) (xs := bs.map V.ref) (fun i σ H10 => ∃ v8 : Option V, σ = [some (.ref a0), some (.ref d), some (.int p), some (.ref a), some (.ref fa), v5, some (.ref ds), some (.ref t), v8, some (.int (p ^ i)), none] ∧ H10 = H9)
      ⟨none, by rw [Int.pow_zero]; rfl, rfl⟩ (fun i σ H10 _ ⟨_, _, e⟩ => by rw [e]; exact SqT.of hbs9) ?_ ?_⟩
    · rintro i x σ H10 hx ⟨v8, rfl, rfl⟩
      refine ⟨.int (p ^ i), rfl, .int p, rfl, _, _, rfl, rfl, .inr (lt64 (by omega) (by omega)), some x, ?_, rfl⟩
      rw [Int.pow_succ]
      rfl
    rintro σ H10 ⟨v8, rfl, rfl⟩
    have hcount : xs.length = p.toNat ^ S.length := by
      have gA : ∀ v ∈ Rs.reverse, Bd v := fun v hv => (gRs v (List.mem_reverse.mp hv)).bd
      have := count_sums hp0 hS (L := xs.map (·.1)) hns fun T => by
        rw [hms, en_mem hp0 gA]
        have e := (SpEq.mem (p := p) (A := Rs.reverse) (B := Rs) fun v => List.mem_reverse) (val T)
        have e2 := hsp (val T)
        rw [e, ← e2]
      rw [List.length_map] at this
      exact this
    have hpow : p ^ (bs.map V.ref).length = ((xs.length : Nat) : Int) := by
      rw [List.length_map, ebs, hcount, int_pow (by omega)]
    refine ⟨.int (p ^ (bs.map V.ref).length), rfl, .ref ds, rfl, ds, xs, rfl, hds9, hks9, rfl, _, rfl, iteNS (congrArg V.int hpow) ?_⟩
    -- the rest
    refine ⟨.int p, rfl, .ref t, rfl, t, _, 0, .ref sa, rfl, rfl, SqT.of ht9, rfl, .ref fa, rfl, p, sa, fa, S, Fu, rfl, hp, hS, hsa.keep (Tk.same s9), gF, hF9, fun H11 ra Re s11 gRe hsr hz hRe => ?_⟩
    refine ⟨.int p, rfl, .ref ra, rfl, p, ra, Re, rfl, hRe, by have := gRe.len; omega, gRe.can, true, rfl, iteT ?_⟩
    refine ⟨.ref ra, rfl, Nat.zero_le _, fun t0 nt0 => ?_⟩
    have s12 := same_upd (o := .tup []) nt0
    refine ⟨pd Re, pd [], pd_dp (hRe.same s12), pd_dp ⟨[], upd_same, .nil⟩, pd_shaped _, pd_shaped _, ?_⟩
    have s1112 := s11.trans s12
    refine ⟨.ref fa, rfl, .ref ds, rfl, ds, xs, fa, Fu, rfl, rfl, s1112 _ _ hds9, hks9.keep (Tk.same s1112), hF9.same s1112, rfl, ?_⟩
    have key : PyData.eqv (pd Re) (pd []) = decide (Fu ∈ xs.map (·.1)) := by
      rw [pd_eqv]
      have gA : ∀ v ∈ Rs.reverse, Bd v := fun v hv => (gRs v (List.mem_reverse.mp hv)).bd
      have e1 := rest_dark hp0 hS gRe.can hsr hz
      have e2 : Fu ∈ xs.map (·.1) ↔ InSp p (S.map (·.2)) (val Fu) := by
        rw [hms, en_mem hp0 gA]
        have e := (SpEq.mem (p := p) (A := Rs.reverse) (B := Rs) fun v => List.mem_reverse) (val Fu)
        have e2 := hsp (val Fu)
        rw [e, ← e2]
        exact ⟨fun z => z.2.2, fun z => ⟨gF.can, gF.bd, z⟩⟩
      exact decide_eq_decide.mpr (e1.trans e2.symm)
    rw [key]
    show Q (.bl (decide (V.bl (decide (Fu ∈ xs.map (·.1))) = V.bl (decide (Fu ∈ xs.map (·.1)))))) _
    rw [decide_eq_true rfl]
    exact q _
end
end D24
set_option Elab.async false
set_option linter.all false
set_option maxRecDepth 100000
set_option maxHeartbeats 8000000
/-! What the top has written; the end. -/
namespace D24
open PySem PySem.Spec PyProof.Rows L2

theorem all_mk {l : PySem.W.OpenLaw} {w : World} {K : PySem.W.Frag} {h : Heap} {mg : Str → Option Value} {fa fTi fSh fAd fMo fTm fIn fCo fFi fPl fLe fMi fSf fMx fNo fLo fPa fTa fRe fPu fSe fBu fLB fLT fLY fLP fLD fLS fLI fLQ fLZ fLL : Addr} (X : K.In h) (G : h.Ns mainGlobals mg) (hfa : mg "law" = some (.ref fa))
    {odTi anTi odSh anSh odAd anAd odMo anMo odTm anTm odIn anIn odCo anCo odFi anFi odPl anPl odLe anLe odMi anMi odSf anSf odMx anMx odNo anNo odLo anLo odPa anPa odTa anTa odRe anRe odPu anPu odSe anSe odBu anBu odLB anLB odLT anLT odLY anLY odLP anLP odLD anLD odLS anLS odLI anLI odLQ anLQ odLZ anLZ odLL anLL : Option Addr} {slTi slSh slAd slMo slTm slIn slCo slFi slPl slLe slMi slSf slMx slNo slLo slPa slTa slRe slPu slSe slBu slLB slLT slLY slLP slLD slLS slLI slLQ slLZ slLL : Array (Option Value)} {ocTi kVTi dcTi pmTi cdTi ctTi ocSh kVSh dcSh pmSh cdSh ctSh ocAd kVAd dcAd pmAd cdAd ctAd ocMo kVMo dcMo pmMo cdMo ctMo ocTm kVTm dcTm pmTm cdTm ctTm ocIn kVIn dcIn pmIn cdIn ctIn ocCo kVCo dcCo pmCo cdCo ctCo ocFi kVFi dcFi pmFi cdFi ctFi ocPl kVPl dcPl pmPl cdPl ctPl ocLe kVLe dcLe pmLe cdLe ctLe ocMi kVMi dcMi pmMi cdMi ctMi ocSf kVSf dcSf pmSf cdSf ctSf ocMx kVMx dcMx pmMx cdMx ctMx ocNo kVNo dcNo pmNo cdNo ctNo ocLo kVLo dcLo pmLo cdLo ctLo ocPa kVPa dcPa pmPa cdPa ctPa ocTa kVTa dcTa pmTa cdTa ctTa ocRe kVRe dcRe pmRe cdRe ctRe ocPu kVPu dcPu pmPu cdPu ctPu ocSe kVSe dcSe pmSe cdSe ctSe ocBu kVBu dcBu pmBu cdBu ctBu ocLB kVLB dcLB pmLB cdLB ctLB ocLT kVLT dcLT pmLT cdLT ctLT ocLY kVLY dcLY pmLY cdLY ctLY ocLP kVLP dcLP pmLP cdLP ctLP ocLD kVLD dcLD pmLD cdLD ctLD ocLS kVLS dcLS pmLS cdLS ctLS ocLI kVLI dcLI pmLI cdLI ctLI ocLQ kVLQ dcLQ pmLQ cdLQ ctLQ ocLZ kVLZ dcLZ pmLZ cdLZ ctLZ ocLL kVLL dcLL pmLL cdLL ctLL : Value}
    (aTi : PySem.W.nsIn K mainGlobals "tidy" = some (some (.ref fTi))) (lTi : K.lookup fTi = some ⟨ocTi, odTi, .func (PySem.W.fnOf "tidy" "tidy" (defArgs sTidy) (defBody sTidy) (defScope sTidy) .none kVTi dcTi pmTi anTi cdTi ctTi), slTi⟩) (cTi : PySem.W.codeIn K cdTi "tidy" = true) (kTi : PySem.W.keepIn K (.ref fTi) = true)
    (aSh : PySem.W.nsIn K mainGlobals "shows" = some (some (.ref fSh))) (lSh : K.lookup fSh = some ⟨ocSh, odSh, .func (PySem.W.fnOf "shows" "shows" (defArgs sShows) (defBody sShows) (defScope sShows) .none kVSh dcSh pmSh anSh cdSh ctSh), slSh⟩) (cSh : PySem.W.codeIn K cdSh "shows" = true) (kSh : PySem.W.keepIn K (.ref fSh) = true)
    (aAd : PySem.W.nsIn K mainGlobals "added" = some (some (.ref fAd))) (lAd : K.lookup fAd = some ⟨ocAd, odAd, .func (PySem.W.fnOf "added" "added" (defArgs sAdded) (defBody sAdded) (defScope sAdded) .none kVAd dcAd pmAd anAd cdAd ctAd), slAd⟩) (cAd : PySem.W.codeIn K cdAd "added" = true) (kAd : PySem.W.keepIn K (.ref fAd) = true)
    (aMo : PySem.W.nsIn K mainGlobals "moved" = some (some (.ref fMo))) (lMo : K.lookup fMo = some ⟨ocMo, odMo, .func (PySem.W.fnOf "moved" "moved" (defArgs sMoved) (defBody sMoved) (defScope sMoved) .none kVMo dcMo pmMo anMo cdMo ctMo), slMo⟩) (cMo : PySem.W.codeIn K cdMo "moved" = true) (kMo : PySem.W.keepIn K (.ref fMo) = true)
    (aTm : PySem.W.nsIn K mainGlobals "timed" = some (some (.ref fTm))) (lTm : K.lookup fTm = some ⟨ocTm, odTm, .func (PySem.W.fnOf "timed" "timed" (defArgs sTimed) (defBody sTimed) (defScope sTimed) .none kVTm dcTm pmTm anTm cdTm ctTm), slTm⟩) (cTm : PySem.W.codeIn K cdTm "timed" = true) (kTm : PySem.W.keepIn K (.ref fTm) = true)
    (aIn : PySem.W.nsIn K mainGlobals "inverse" = some (some (.ref fIn))) (lIn : K.lookup fIn = some ⟨ocIn, odIn, .func (PySem.W.fnOf "inverse" "inverse" (defArgs sInverse) (defBody sInverse) (defScope sInverse) .none kVIn dcIn pmIn anIn cdIn ctIn), slIn⟩) (cIn : PySem.W.codeIn K cdIn "inverse" = true) (kIn : PySem.W.keepIn K (.ref fIn) = true)
    (aCo : PySem.W.nsIn K mainGlobals "column" = some (some (.ref fCo))) (lCo : K.lookup fCo = some ⟨ocCo, odCo, .func (PySem.W.fnOf "column" "column" (defArgs sColumn) (defBody sColumn) (defScope sColumn) .none kVCo dcCo pmCo anCo cdCo ctCo), slCo⟩) (cCo : PySem.W.codeIn K cdCo "column" = true) (kCo : PySem.W.keepIn K (.ref fCo) = true)
    (aFi : PySem.W.nsIn K mainGlobals "first_column" = some (some (.ref fFi))) (lFi : K.lookup fFi = some ⟨ocFi, odFi, .func (PySem.W.fnOf "first_column" "first_column" (defArgs sFirst) (defBody sFirst) (defScope sFirst) .none kVFi dcFi pmFi anFi cdFi ctFi), slFi⟩) (cFi : PySem.W.codeIn K cdFi "first_column" = true) (kFi : PySem.W.keepIn K (.ref fFi) = true)
    (aPl : PySem.W.nsIn K mainGlobals "places_in" = some (some (.ref fPl))) (lPl : K.lookup fPl = some ⟨ocPl, odPl, .func (PySem.W.fnOf "places_in" "places_in" (defArgs sPlaces) (defBody sPlaces) (defScope sPlaces) .none kVPl dcPl pmPl anPl cdPl ctPl), slPl⟩) (cPl : PySem.W.codeIn K cdPl "places_in" = true) (kPl : PySem.W.keepIn K (.ref fPl) = true)
    (aLe : PySem.W.nsIn K mainGlobals "length" = some (some (.ref fLe))) (lLe : K.lookup fLe = some ⟨ocLe, odLe, .func (PySem.W.fnOf "length" "length" (defArgs sLength) (defBody sLength) (defScope sLength) .none kVLe dcLe pmLe anLe cdLe ctLe), slLe⟩) (cLe : PySem.W.codeIn K cdLe "length" = true) (kLe : PySem.W.keepIn K (.ref fLe) = true)
    (aMi : PySem.W.nsIn K mainGlobals "misplaced" = some (some (.ref fMi))) (lMi : K.lookup fMi = some ⟨ocMi, odMi, .func (PySem.W.fnOf "misplaced" "misplaced" (defArgs sMis) (defBody sMis) (defScope sMis) .none kVMi dcMi pmMi anMi cdMi ctMi), slMi⟩) (cMi : PySem.W.codeIn K cdMi "misplaced" = true) (kMi : PySem.W.keepIn K (.ref fMi) = true)
    (aSf : PySem.W.nsIn K mainGlobals "shifted" = some (some (.ref fSf))) (lSf : K.lookup fSf = some ⟨ocSf, odSf, .func (PySem.W.fnOf "shifted" "shifted" (defArgs sShifted) (defBody sShifted) (defScope sShifted) .none kVSf dcSf pmSf anSf cdSf ctSf), slSf⟩) (cSf : PySem.W.codeIn K cdSf "shifted" = true) (kSf : PySem.W.keepIn K (.ref fSf) = true)
    (aMx : PySem.W.nsIn K mainGlobals "mixed" = some (some (.ref fMx))) (lMx : K.lookup fMx = some ⟨ocMx, odMx, .func (PySem.W.fnOf "mixed" "mixed" (defArgs sMixed) (defBody sMixed) (defScope sMixed) .none kVMx dcMx pmMx anMx cdMx ctMx), slMx⟩) (cMx : PySem.W.codeIn K cdMx "mixed" = true) (kMx : PySem.W.keepIn K (.ref fMx) = true)
    (aNo : PySem.W.nsIn K mainGlobals "normal" = some (some (.ref fNo))) (lNo : K.lookup fNo = some ⟨ocNo, odNo, .func (PySem.W.fnOf "normal" "normal" (defArgs sNormal) (defBody sNormal) (defScope sNormal) .none kVNo dcNo pmNo anNo cdNo ctNo), slNo⟩) (cNo : PySem.W.codeIn K cdNo "normal" = true) (kNo : PySem.W.keepIn K (.ref fNo) = true)
    (aLo : PySem.W.nsIn K mainGlobals "lowered" = some (some (.ref fLo))) (lLo : K.lookup fLo = some ⟨ocLo, odLo, .func (PySem.W.fnOf "lowered" "lowered" (defArgs sLowered) (defBody sLowered) (defScope sLowered) .none kVLo dcLo pmLo anLo cdLo ctLo), slLo⟩) (cLo : PySem.W.codeIn K cdLo "lowered" = true) (kLo : PySem.W.keepIn K (.ref fLo) = true)
    (aPa : PySem.W.nsIn K mainGlobals "parts_of" = some (some (.ref fPa))) (lPa : K.lookup fPa = some ⟨ocPa, odPa, .func (PySem.W.fnOf "parts_of" "parts_of" (defArgs sParts) (defBody sParts) (defScope sParts) .none kVPa dcPa pmPa anPa cdPa ctPa), slPa⟩) (cPa : PySem.W.codeIn K cdPa "parts_of" = true) (kPa : PySem.W.keepIn K (.ref fPa) = true)
    (aTa : PySem.W.nsIn K mainGlobals "taken" = some (some (.ref fTa))) (lTa : K.lookup fTa = some ⟨ocTa, odTa, .func (PySem.W.fnOf "taken" "taken" (defArgs sTaken) (defBody sTaken) (defScope sTaken) .none kVTa dcTa pmTa anTa cdTa ctTa), slTa⟩) (cTa : PySem.W.codeIn K cdTa "taken" = true) (kTa : PySem.W.keepIn K (.ref fTa) = true)
    (aRe : PySem.W.nsIn K mainGlobals "rest_of" = some (some (.ref fRe))) (lRe : K.lookup fRe = some ⟨ocRe, odRe, .func (PySem.W.fnOf "rest_of" "rest_of" (defArgs sRest) (defBody sRest) (defScope sRest) .none kVRe dcRe pmRe anRe cdRe ctRe), slRe⟩) (cRe : PySem.W.codeIn K cdRe "rest_of" = true) (kRe : PySem.W.keepIn K (.ref fRe) = true)
    (aPu : PySem.W.nsIn K mainGlobals "put_in" = some (some (.ref fPu))) (lPu : K.lookup fPu = some ⟨ocPu, odPu, .func (PySem.W.fnOf "put_in" "put_in" (defArgs sPut) (defBody sPut) (defScope sPut) .none kVPu dcPu pmPu anPu cdPu ctPu), slPu⟩) (cPu : PySem.W.codeIn K cdPu "put_in" = true) (kPu : PySem.W.keepIn K (.ref fPu) = true)
    (aSe : PySem.W.nsIn K mainGlobals "settle" = some (some (.ref fSe))) (lSe : K.lookup fSe = some ⟨ocSe, odSe, .func (PySem.W.fnOf "settle" "settle" (defArgs sSettle) (defBody sSettle) (defScope sSettle) .none kVSe dcSe pmSe anSe cdSe ctSe), slSe⟩) (cSe : PySem.W.codeIn K cdSe "settle" = true) (kSe : PySem.W.keepIn K (.ref fSe) = true)
    (aBu : PySem.W.nsIn K mainGlobals "built" = some (some (.ref fBu))) (lBu : K.lookup fBu = some ⟨ocBu, odBu, .func (PySem.W.fnOf "built" "built" (defArgs sBuilt) (defBody sBuilt) (defScope sBuilt) .none kVBu dcBu pmBu anBu cdBu ctBu), slBu⟩) (cBu : PySem.W.codeIn K cdBu "built" = true) (kBu : PySem.W.keepIn K (.ref fBu) = true)
    (aLB : PySem.W.nsIn K mainGlobals "_law_begin" = some (some (.ref fLB))) (lLB : K.lookup fLB = some ⟨ocLB, odLB, .func (PySem.W.fnOf "_law_begin" "_law_begin" (defArgs sLBegin) (defBody sLBegin) (defScope sLBegin) .none kVLB dcLB pmLB anLB cdLB ctLB), slLB⟩) (cLB : PySem.W.codeIn K cdLB "_law_begin" = true) (kLB : PySem.W.keepIn K (.ref fLB) = true)
    (aLT : PySem.W.nsIn K mainGlobals "_law_take" = some (some (.ref fLT))) (lLT : K.lookup fLT = some ⟨ocLT, odLT, .func (PySem.W.fnOf "_law_take" "_law_take" (defArgs sLTake) (defBody sLTake) (defScope sLTake) .none kVLT dcLT pmLT anLT cdLT ctLT), slLT⟩) (cLT : PySem.W.codeIn K cdLT "_law_take" = true) (kLT : PySem.W.keepIn K (.ref fLT) = true)
    (aLY : PySem.W.nsIn K mainGlobals "_law_tidy" = some (some (.ref fLY))) (lLY : K.lookup fLY = some ⟨ocLY, odLY, .func (PySem.W.fnOf "_law_tidy" "_law_tidy" (defArgs sLTidy) (defBody sLTidy) (defScope sLTidy) .none kVLY dcLY pmLY anLY cdLY ctLY), slLY⟩) (cLY : PySem.W.codeIn K cdLY "_law_tidy" = true) (kLY : PySem.W.keepIn K (.ref fLY) = true)
    (aLP : PySem.W.nsIn K mainGlobals "_law_pattern" = some (some (.ref fLP))) (lLP : K.lookup fLP = some ⟨ocLP, odLP, .func (PySem.W.fnOf "_law_pattern" "_law_pattern" (defArgs sLPat) (defBody sLPat) (defScope sLPat) .none kVLP dcLP pmLP anLP cdLP ctLP), slLP⟩) (cLP : PySem.W.codeIn K cdLP "_law_pattern" = true) (kLP : PySem.W.keepIn K (.ref fLP) = true)
    (aLD : PySem.W.nsIn K mainGlobals "_law_draw_patterns" = some (some (.ref fLD))) (lLD : K.lookup fLD = some ⟨ocLD, odLD, .func (PySem.W.fnOf "_law_draw_patterns" "_law_draw_patterns" (defArgs sLDraw) (defBody sLDraw) (defScope sLDraw) .none kVLD dcLD pmLD anLD cdLD ctLD), slLD⟩) (cLD : PySem.W.codeIn K cdLD "_law_draw_patterns" = true) (kLD : PySem.W.keepIn K (.ref fLD) = true)
    (aLS : PySem.W.nsIn K mainGlobals "_law_sum" = some (some (.ref fLS))) (lLS : K.lookup fLS = some ⟨ocLS, odLS, .func (PySem.W.fnOf "_law_sum" "_law_sum" (defArgs sLSum) (defBody sLSum) (defScope sLSum) .none kVLS dcLS pmLS anLS cdLS ctLS), slLS⟩) (cLS : PySem.W.codeIn K cdLS "_law_sum" = true) (kLS : PySem.W.keepIn K (.ref fLS) = true)
    (aLI : PySem.W.nsIn K mainGlobals "_law_int" = some (some (.ref fLI))) (lLI : K.lookup fLI = some ⟨ocLI, odLI, .func (PySem.W.fnOf "_law_int" "_law_int" (defArgs sLInt) (defBody sLInt) (defScope sLInt) .none kVLI dcLI pmLI anLI cdLI ctLI), slLI⟩) (cLI : PySem.W.codeIn K cdLI "_law_int" = true) (kLI : PySem.W.keepIn K (.ref fLI) = true)
    (aLQ : PySem.W.nsIn K mainGlobals "_law_is_pattern" = some (some (.ref fLQ))) (lLQ : K.lookup fLQ = some ⟨ocLQ, odLQ, .func (PySem.W.fnOf "_law_is_pattern" "_law_is_pattern" (defArgs sLIsPat) (defBody sLIsPat) (defScope sLIsPat) .none kVLQ dcLQ pmLQ anLQ cdLQ ctLQ), slLQ⟩) (cLQ : PySem.W.codeIn K cdLQ "_law_is_pattern" = true) (kLQ : PySem.W.keepIn K (.ref fLQ) = true)
    (aLZ : PySem.W.nsIn K mainGlobals "_law_sums" = some (some (.ref fLZ))) (lLZ : K.lookup fLZ = some ⟨ocLZ, odLZ, .func (PySem.W.fnOf "_law_sums" "_law_sums" (defArgs sLSums) (defBody sLSums) (defScope sLSums) .none kVLZ dcLZ pmLZ anLZ cdLZ ctLZ), slLZ⟩) (cLZ : PySem.W.codeIn K cdLZ "_law_sums" = true) (kLZ : PySem.W.keepIn K (.ref fLZ) = true)
    (aLL : PySem.W.nsIn K mainGlobals "law" = some (some (.ref fLL))) (lLL : K.lookup fLL = some ⟨ocLL, odLL, .func (PySem.W.fnOf "law" "law" (defArgs sLaw) (defBody sLaw) (defScope sLaw) .none kVLL dcLL pmLL anLL cdLL ctLL), slLL⟩) (cLL : PySem.W.codeIn K cdLL "law" = true) (kLL : PySem.W.keepIn K (.ref fLL) = true)
    (z_sorted : PySem.W.nsIn K mainGlobals "sorted" = some none)
    (z_tuple : PySem.W.nsIn K mainGlobals "tuple" = some none)
    (z_list : PySem.W.nsIn K mainGlobals "list" = some none)
    (z_range : PySem.W.nsIn K mainGlobals "range" = some none)
    (z_min : PySem.W.nsIn K mainGlobals "min" = some none)
    (z_len : PySem.W.nsIn K mainGlobals "len" = some none)
    (z_abs : PySem.W.nsIn K mainGlobals "abs" = some none)
    (z_isinstance : PySem.W.nsIn K mainGlobals "isinstance" = some none)
    (z_int : PySem.W.nsIn K mainGlobals "int" = some none)
    (z_bool : PySem.W.nsIn K mainGlobals "bool" = some none)
    (z_all : PySem.W.nsIn K mainGlobals "all" = some none)
    : ∃ fd : FuncData, (∀ (s : Shared) (v : Value), BindsTo s fd ⟨[v], []⟩ [("_law_script", v)]) ∧ ∀ base : Heap, K.In base → base.Ns mainGlobals mg → FnOk l.prog w K mg base CX0 7 fa fd ["_law_script"] (spLaw K) := by
  have e := hfa.symm.trans (PySem.W.mg_of X G aLL)
  cases e
  have FTi := fun_mk (st := sTidy) lTi cTi kTi
  have ATi : At K mg "tidy" sTidy ["p", "pairs"] fTi _ := ⟨FTi, FTi.binds (ps := ["p", "pairs"]) (fun _ _ _ _ _ _ us hl => match us, hl with | [_, _], _ => rfl), PySem.W.mg_of X G aTi⟩
  have FSh := fun_mk (st := sShows) lSh cSh kSh
  have ASh : At K mg "shows" sShows ["pattern", "place"] fSh _ := ⟨FSh, FSh.binds (ps := ["pattern", "place"]) (fun _ _ _ _ _ _ us hl => match us, hl with | [_, _], _ => rfl), PySem.W.mg_of X G aSh⟩
  have FAd := fun_mk (st := sAdded) lAd cAd kAd
  have AAd : At K mg "added" sAdded ["p", "one", "other"] fAd _ := ⟨FAd, FAd.binds (ps := ["p", "one", "other"]) (fun _ _ _ _ _ _ us hl => match us, hl with | [_, _, _], _ => rfl), PySem.W.mg_of X G aAd⟩
  have FMo := fun_mk (st := sMoved) lMo cMo kMo
  have AMo : At K mg "moved" sMoved ["pattern", "by"] fMo _ := ⟨FMo, FMo.binds (ps := ["pattern", "by"]) (fun _ _ _ _ _ _ us hl => match us, hl with | [_, _], _ => rfl), PySem.W.mg_of X G aMo⟩
  have FTm := fun_mk (st := sTimed) lTm cTm kTm
  have ATm : At K mg "timed" sTimed ["p", "pattern", "n"] fTm _ := ⟨FTm, FTm.binds (ps := ["p", "pattern", "n"]) (fun _ _ _ _ _ _ us hl => match us, hl with | [_, _, _], _ => rfl), PySem.W.mg_of X G aTm⟩
  have FIn := fun_mk (st := sInverse) lIn cIn kIn
  have AIn : At K mg "inverse" sInverse ["p", "setting"] fIn _ := ⟨FIn, FIn.binds (ps := ["p", "setting"]) (fun _ _ _ _ _ _ us hl => match us, hl with | [_, _], _ => rfl), PySem.W.mg_of X G aIn⟩
  have FCo := fun_mk (st := sColumn) lCo cCo kCo
  have ACo : At K mg "column" sColumn ["place", "stride"] fCo _ := ⟨FCo, FCo.binds (ps := ["place", "stride"]) (fun _ _ _ _ _ _ us hl => match us, hl with | [_, _], _ => rfl), PySem.W.mg_of X G aCo⟩
  have FFi := fun_mk (st := sFirst) lFi cFi kFi
  have AFi : At K mg "first_column" sFirst ["stride", "pattern"] fFi _ := ⟨FFi, FFi.binds (ps := ["stride", "pattern"]) (fun _ _ _ _ _ _ us hl => match us, hl with | [_, _], _ => rfl), PySem.W.mg_of X G aFi⟩
  have FPl := fun_mk (st := sPlaces) lPl cPl kPl
  have APl : At K mg "places_in" sPlaces ["stride", "pattern", "at"] fPl _ := ⟨FPl, FPl.binds (ps := ["stride", "pattern", "at"]) (fun _ _ _ _ _ _ us hl => match us, hl with | [_, _, _], _ => rfl), PySem.W.mg_of X G aPl⟩
  have FLe := fun_mk (st := sLength) lLe cLe kLe
  have ALe : At K mg "length" sLength ["stride", "pattern"] fLe _ := ⟨FLe, FLe.binds (ps := ["stride", "pattern"]) (fun _ _ _ _ _ _ us hl => match us, hl with | [_, _], _ => rfl), PySem.W.mg_of X G aLe⟩
  have FMi := fun_mk (st := sMis) lMi cMi kMi
  have AMi : At K mg "misplaced" sMis ["stride", "stair", "pattern"] fMi _ := ⟨FMi, FMi.binds (ps := ["stride", "stair", "pattern"]) (fun _ _ _ _ _ _ us hl => match us, hl with | [_, _, _], _ => rfl), PySem.W.mg_of X G aMi⟩
  have FSf := fun_mk (st := sShifted) lSf cSf kSf
  have ASf : At K mg "shifted" sShifted ["maker", "by"] fSf _ := ⟨FSf, FSf.binds (ps := ["maker", "by"]) (fun _ _ _ _ _ _ us hl => match us, hl with | [_, _], _ => rfl), PySem.W.mg_of X G aSf⟩
  have FMx := fun_mk (st := sMixed) lMx cMx kMx
  have AMx : At K mg "mixed" sMixed ["p", "stride", "one", "other", "shift", "setting"] fMx _ := ⟨FMx, FMx.binds (ps := ["p", "stride", "one", "other", "shift", "setting"]) (fun _ _ _ _ _ _ us hl => match us, hl with | [_, _, _, _, _, _], _ => rfl), PySem.W.mg_of X G aMx⟩
  have FNo := fun_mk (st := sNormal) lNo cNo kNo
  have ANo : At K mg "normal" sNormal ["p", "stride", "one"] fNo _ := ⟨FNo, FNo.binds (ps := ["p", "stride", "one"]) (fun _ _ _ _ _ _ us hl => match us, hl with | [_, _, _], _ => rfl), PySem.W.mg_of X G aNo⟩
  have FLo := fun_mk (st := sLowered) lLo cLo kLo
  have ALo : At K mg "lowered" sLowered ["p", "stride", "stair", "one"] fLo _ := ⟨FLo, FLo.binds (ps := ["p", "stride", "stair", "one"]) (fun _ _ _ _ _ _ us hl => match us, hl with | [_, _, _, _], _ => rfl), PySem.W.mg_of X G aLo⟩
  have FPa := fun_mk (st := sParts) lPa cPa kPa
  have APa : At K mg "parts_of" sParts ["maker"] fPa _ := ⟨FPa, FPa.binds (ps := ["maker"]) (fun _ _ _ _ _ _ us hl => match us, hl with | [_], _ => rfl), PySem.W.mg_of X G aPa⟩
  have FTa := fun_mk (st := sTaken) lTa cTa kTa
  have ATa : At K mg "taken" sTaken ["p", "stride", "stairs", "pattern"] fTa _ := ⟨FTa, FTa.binds (ps := ["p", "stride", "stairs", "pattern"]) (fun _ _ _ _ _ _ us hl => match us, hl with | [_, _, _, _], _ => rfl), PySem.W.mg_of X G aTa⟩
  have FRe := fun_mk (st := sRest) lRe cRe kRe
  have ARe : At K mg "rest_of" sRest ["p", "stride", "stairs", "pattern"] fRe _ := ⟨FRe, FRe.binds (ps := ["p", "stride", "stairs", "pattern"]) (fun _ _ _ _ _ _ us hl => match us, hl with | [_, _, _, _], _ => rfl), PySem.W.mg_of X G aRe⟩
  have FPu := fun_mk (st := sPut) lPu cPu kPu
  have APu : At K mg "put_in" sPut ["p", "stride", "steps", "one"] fPu _ := ⟨FPu, FPu.binds (ps := ["p", "stride", "steps", "one"]) (fun _ _ _ _ _ _ us hl => match us, hl with | [_, _, _, _], _ => rfl), PySem.W.mg_of X G aPu⟩
  have FSe := fun_mk (st := sSettle) lSe cSe kSe
  have ASe : At K mg "settle" sSettle ["p", "stride", "steps"] fSe _ := ⟨FSe, FSe.binds (ps := ["p", "stride", "steps"]) (fun _ _ _ _ _ _ us hl => match us, hl with | [_, _, _], _ => rfl), PySem.W.mg_of X G aSe⟩
  have FBu := fun_mk (st := sBuilt) lBu cBu kBu
  have ABu : At K mg "built" sBuilt ["p", "stride", "patterns"] fBu _ := ⟨FBu, FBu.binds (ps := ["p", "stride", "patterns"]) (fun _ _ _ _ _ _ us hl => match us, hl with | [_, _, _], _ => rfl), PySem.W.mg_of X G aBu⟩
  have FLB := fun_mk (st := sLBegin) lLB cLB kLB
  have ALB : At K mg "_law_begin" sLBegin ["_law_script"] fLB _ := ⟨FLB, FLB.binds (ps := ["_law_script"]) (fun _ _ _ _ _ _ us hl => match us, hl with | [_], _ => rfl), PySem.W.mg_of X G aLB⟩
  have FLT := fun_mk (st := sLTake) lLT cLT kLT
  have ALT : At K mg "_law_take" sLTake ["_law_draw", "_law_many"] fLT _ := ⟨FLT, FLT.binds (ps := ["_law_draw", "_law_many"]) (fun _ _ _ _ _ _ us hl => match us, hl with | [_, _], _ => rfl), PySem.W.mg_of X G aLT⟩
  have FLY := fun_mk (st := sLTidy) lLY cLY kLY
  have ALY : At K mg "_law_tidy" sLTidy ["_law_p", "_law_pairs"] fLY _ := ⟨FLY, FLY.binds (ps := ["_law_p", "_law_pairs"]) (fun _ _ _ _ _ _ us hl => match us, hl with | [_, _], _ => rfl), PySem.W.mg_of X G aLY⟩
  have FLP := fun_mk (st := sLPat) lLP cLP kLP
  have ALP : At K mg "_law_pattern" sLPat ["_law_draw", "_law_p", "_law_most", "_law_far"] fLP _ := ⟨FLP, FLP.binds (ps := ["_law_draw", "_law_p", "_law_most", "_law_far"]) (fun _ _ _ _ _ _ us hl => match us, hl with | [_, _, _, _], _ => rfl), PySem.W.mg_of X G aLP⟩
  have FLD := fun_mk (st := sLDraw) lLD cLD kLD
  have ALD : At K mg "_law_draw_patterns" sLDraw ["_law_draw", "_law_p", "_law_most"] fLD _ := ⟨FLD, FLD.binds (ps := ["_law_draw", "_law_p", "_law_most"]) (fun _ _ _ _ _ _ us hl => match us, hl with | [_, _, _], _ => rfl), PySem.W.mg_of X G aLD⟩
  have FLS := fun_mk (st := sLSum) lLS cLS kLS
  have ALS : At K mg "_law_sum" sLSum ["_law_p", "_law_one", "_law_other", "_law_by", "_law_many"] fLS _ := ⟨FLS, FLS.binds (ps := ["_law_p", "_law_one", "_law_other", "_law_by", "_law_many"]) (fun _ _ _ _ _ _ us hl => match us, hl with | [_, _, _, _, _], _ => rfl), PySem.W.mg_of X G aLS⟩
  have FLI := fun_mk (st := sLInt) lLI cLI kLI
  have ALI : At K mg "_law_int" sLInt ["_law_thing"] fLI _ := ⟨FLI, FLI.binds (ps := ["_law_thing"]) (fun _ _ _ _ _ _ us hl => match us, hl with | [_], _ => rfl), PySem.W.mg_of X G aLI⟩
  have FLQ := fun_mk (st := sLIsPat) lLQ cLQ kLQ
  have ALQ : At K mg "_law_is_pattern" sLIsPat ["_law_p", "_law_thing"] fLQ _ := ⟨FLQ, FLQ.binds (ps := ["_law_p", "_law_thing"]) (fun _ _ _ _ _ _ us hl => match us, hl with | [_, _], _ => rfl), PySem.W.mg_of X G aLQ⟩
  have FLZ := fun_mk (st := sLSums) lLZ cLZ kLZ
  have ALZ : At K mg "_law_sums" sLSums ["_law_p", "_law_patterns"] fLZ _ := ⟨FLZ, FLZ.binds (ps := ["_law_p", "_law_patterns"]) (fun _ _ _ _ _ _ us hl => match us, hl with | [_, _], _ => rfl), PySem.W.mg_of X G aLZ⟩
  have FLL := fun_mk (st := sLaw) lLL cLL kLL
  have n_sorted := PySem.W.mg_none_of X G z_sorted
  have n_tuple := PySem.W.mg_none_of X G z_tuple
  have n_list := PySem.W.mg_none_of X G z_list
  have n_range := PySem.W.mg_none_of X G z_range
  have n_min := PySem.W.mg_none_of X G z_min
  have n_len := PySem.W.mg_none_of X G z_len
  have n_abs := PySem.W.mg_none_of X G z_abs
  have n_isinstance := PySem.W.mg_none_of X G z_isinstance
  have n_int := PySem.W.mg_none_of X G z_int
  have n_bool := PySem.W.mg_none_of X G z_bool
  have n_all := PySem.W.mg_none_of X G z_all
  refine ⟨PySem.W.fnOf "law" "law" (defArgs sLaw) (defBody sLaw) (defScope sLaw) .none kVLL dcLL pmLL anLL cdLL ctLL, fun s v => .of_eq rfl, fun base _ _ => ?_⟩
  have gAd := ok_added (k := 1) FAd (ok_tidy (P := l.prog) (w := w) (base := base) (k := 0) FTi n_sorted n_tuple) ATi n_list
  have gAdM := ok_addedM (k := 1) FAd (ok_tidyM (P := l.prog) (w := w) (base := base) (k := 0) FTi n_sorted n_tuple) ATi n_list
  have gTm := ok_timed (k := 1) FTm (ok_tidy (P := l.prog) (w := w) (base := base) (k := 0) FTi n_sorted n_tuple) ATi
  have gTmM := ok_timedM (k := 1) FTm (ok_tidyM (P := l.prog) (w := w) (base := base) (k := 0) FTi n_sorted n_tuple) ATi
  have gMo := ok_moved (P := l.prog) (w := w) (base := base) (k := 1) FMo n_tuple
  have gSf := ok_shifted (P := l.prog) (w := w) (base := base) (k := 1) FSf n_tuple
  have gMx := ok_mixed (k := 2) FMx gAd gAdM AAd gTm gTmM ATm gMo AMo gSf ASf
  have gMi := fun p => ok_mis (p := p) (k := 2) FMi (ok_first (P := l.prog) (w := w) (base := base) (k := 0) FFi ACo.F ACo.b ACo.g n_min) AFi (ok_len (P := l.prog) (w := w) (base := base) (k := 1) FLe) ALe ((fun p => ok_places (P := l.prog) (w := w) (base := base) (p := p) (k := 0) FPl ACo.F ACo.b ACo.g) p) APl n_len
  have gNo := ok_normal (p0 := 0) (k := 3) FNo (ok_first (P := l.prog) (w := w) (base := base) (k := 1) FFi ACo.F ACo.b ACo.g n_min) AFi (fun p => ok_places (P := l.prog) (w := w) (base := base) (p := p) (k := 1) FPl ACo.F ACo.b ACo.g) APl gMx AMx (ok_inv (P := l.prog) (w := w) (base := base) (k := 2) FIn n_range) AIn (ok_shows (P := l.prog) (w := w) (base := base) (k := 2) FSh) ASh
  have gLo := ok_low (k := 3) FLo (ok_first (P := l.prog) (w := w) (base := base) (k := 1) FFi ACo.F ACo.b ACo.g n_min) AFi (ok_len (P := l.prog) (w := w) (base := base) (k := 2) FLe) ALe (ok_inv (P := l.prog) (w := w) (base := base) (k := 2) FIn n_range) AIn (ok_shows (P := l.prog) (w := w) (base := base) (k := 2) FSh) ASh gMi AMi gMx AMx n_len
  have gTmM4 := ok_timedM (k := 3) FTm (ok_tidyM (P := l.prog) (w := w) (base := base) (k := 2) FTi n_sorted n_tuple) ATi
  have gTa := ok_taken (k := 4) FTa gLo ALo gTmM4 ATm (ok_parts (P := l.prog) (w := w) (base := base) (k := 3) FPa) APa n_len n_range
  have gRe := ok_rest (k := 5) FRe gTa ATa
  have gPu := ok_put (k := 4) FPu gNo ANo (ok_first (P := l.prog) (w := w) (base := base) (k := 2) FFi ACo.F ACo.b ACo.g n_min) AFi (ok_len (P := l.prog) (w := w) (base := base) (k := 3) FLe) ALe gLo ALo n_len
  have gSe := ok_settle (k := 4) FSe gLo ALo n_len n_range n_sorted
  have gBu := ok_built (k := 5) FBu gPu APu gSe ASe (ok_tidy (P := l.prog) (w := w) (base := base) (k := 4) FTi n_sorted n_tuple) ATi (ok_parts (P := l.prog) (w := w) (base := base) (k := 4) FPa) APa n_len n_range n_sorted n_list n_tuple
  have gLP5 := ok_lpat (k := 4) FLP (ok_take (P := l.prog) (w := w) (base := base) (k := 3) FLT n_len n_abs) ALT (ok_ltidy (P := l.prog) (w := w) (base := base) (k := 3) FLY n_sorted n_tuple) ALY n_range
  have gLP6 := ok_lpat (k := 5) FLP (ok_take (P := l.prog) (w := w) (base := base) (k := 4) FLT n_len n_abs) ALT (ok_ltidy (P := l.prog) (w := w) (base := base) (k := 4) FLY n_sorted n_tuple) ALY n_range
  have gLD := ok_ldraw (k := 5) FLD (ok_take (P := l.prog) (w := w) (base := base) (k := 4) FLT n_len n_abs) ALT gLP5 ALP n_range
  have gLS5 := ok_lsum (k := 4) FLS (ok_ltidy (P := l.prog) (w := w) (base := base) (k := 3) FLY n_sorted n_tuple) ALY n_list
  have gLS6 := ok_lsum (k := 5) FLS (ok_ltidy (P := l.prog) (w := w) (base := base) (k := 4) FLY n_sorted n_tuple) ALY n_list
  have gLZ := ok_sums (k := 5) FLZ gLS5 ALS n_range
  have gLI := ok_int (P := l.prog) (w := w) (base := base) (k := 4) FLI n_isinstance n_int n_bool
  have gLQ := ok_ispat (k := 5) FLQ gLI ALI n_isinstance n_tuple n_len n_range
  have gLB := ok_begin (P := l.prog) (w := w) (base := base) (k := 5) FLB n_list
  exact ok_law (k := 6) FLL gLB ALB (ok_take (P := l.prog) (w := w) (base := base) (k := 5) FLT n_len n_abs) ALT gLD ALD gLS6 ALS gLP6 ALP gLZ ALZ gBu ABu gRe ARe gLQ ALQ n_len n_list n_isinstance n_tuple n_all
end D24
open PySem PySem.W PyProof.Rows
set_option maxRecDepth 100000 in
set_option maxHeartbeats 0 in
theorem PySem.Challenge.cw_duskround_k24_whole_stairs_without_strid_holds : PySem.Challenge.rw_duskround_k24_whole_stairs_without_strid.Holds := by
  w_on; o_law; k_head; (case hw => w_witness2)
  k_fill
  refine L2.walk_of (l := PySem.Challenge.rw_duskround_k24_whole_stairs_without_strid) (n := 63) (k := 7) (x := "_law_script") (CX := fun _ => L2.CX0) (sp := fun w => D24.spLaw _) rfl (by decide) rfl ⟨rfl, by decide, by decide⟩ (fun w h Y => PySem.W.kIn_of Y) ?F (fun _ _ a ns hl _ hS => ⟨a, ns, rfl, hS, hl, fun _ => rfl⟩) (fun _ _ _ _ _ h => h)
  case F =>
    intro w mg fa h KX G hmg
    refine' D24.all_mk KX G hmg ?aTi ?lTi ?cTi ?kTi ?aSh ?lSh ?cSh ?kSh ?aAd ?lAd ?cAd ?kAd ?aMo ?lMo ?cMo ?kMo ?aTm ?lTm ?cTm ?kTm ?aIn ?lIn ?cIn ?kIn ?aCo ?lCo ?cCo ?kCo ?aFi ?lFi ?cFi ?kFi ?aPl ?lPl ?cPl ?kPl ?aLe ?lLe ?cLe ?kLe ?aMi ?lMi ?cMi ?kMi ?aSf ?lSf ?cSf ?kSf ?aMx ?lMx ?cMx ?kMx ?aNo ?lNo ?cNo ?kNo ?aLo ?lLo ?cLo ?kLo ?aPa ?lPa ?cPa ?kPa ?aTa ?lTa ?cTa ?kTa ?aRe ?lRe ?cRe ?kRe ?aPu ?lPu ?cPu ?kPu ?aSe ?lSe ?cSe ?kSe ?aBu ?lBu ?cBu ?kBu ?aLB ?lLB ?cLB ?kLB ?aLT ?lLT ?cLT ?kLT ?aLY ?lLY ?cLY ?kLY ?aLP ?lLP ?cLP ?kLP ?aLD ?lLD ?cLD ?kLD ?aLS ?lLS ?cLS ?kLS ?aLI ?lLI ?cLI ?kLI ?aLQ ?lLQ ?cLQ ?kLQ ?aLZ ?lLZ ?cLZ ?kLZ ?aLL ?lLL ?cLL ?kLL ?z_sorted ?z_tuple ?z_list ?z_range ?z_min ?z_len ?z_abs ?z_isinstance ?z_int ?z_bool ?z_all
    (case aTi => k_is)
    (case lTi => k_is)
    (case cTi => k_is)
    (case kTi => k_is)
    (case aSh => k_is)
    (case lSh => k_is)
    (case cSh => k_is)
    (case kSh => k_is)
    (case aAd => k_is)
    (case lAd => k_is)
    (case cAd => k_is)
    (case kAd => k_is)
    (case aMo => k_is)
    (case lMo => k_is)
    (case cMo => k_is)
    (case kMo => k_is)
    (case aTm => k_is)
    (case lTm => k_is)
    (case cTm => k_is)
    (case kTm => k_is)
    (case aIn => k_is)
    (case lIn => k_is)
    (case cIn => k_is)
    (case kIn => k_is)
    (case aCo => k_is)
    (case lCo => k_is)
    (case cCo => k_is)
    (case kCo => k_is)
    (case aFi => k_is)
    (case lFi => k_is)
    (case cFi => k_is)
    (case kFi => k_is)
    (case aPl => k_is)
    (case lPl => k_is)
    (case cPl => k_is)
    (case kPl => k_is)
    (case aLe => k_is)
    (case lLe => k_is)
    (case cLe => k_is)
    (case kLe => k_is)
    (case aMi => k_is)
    (case lMi => k_is)
    (case cMi => k_is)
    (case kMi => k_is)
    (case aSf => k_is)
    (case lSf => k_is)
    (case cSf => k_is)
    (case kSf => k_is)
    (case aMx => k_is)
    (case lMx => k_is)
    (case cMx => k_is)
    (case kMx => k_is)
    (case aNo => k_is)
    (case lNo => k_is)
    (case cNo => k_is)
    (case kNo => k_is)
    (case aLo => k_is)
    (case lLo => k_is)
    (case cLo => k_is)
    (case kLo => k_is)
    (case aPa => k_is)
    (case lPa => k_is)
    (case cPa => k_is)
    (case kPa => k_is)
    (case aTa => k_is)
    (case lTa => k_is)
    (case cTa => k_is)
    (case kTa => k_is)
    (case aRe => k_is)
    (case lRe => k_is)
    (case cRe => k_is)
    (case kRe => k_is)
    (case aPu => k_is)
    (case lPu => k_is)
    (case cPu => k_is)
    (case kPu => k_is)
    (case aSe => k_is)
    (case lSe => k_is)
    (case cSe => k_is)
    (case kSe => k_is)
    (case aBu => k_is)
    (case lBu => k_is)
    (case cBu => k_is)
    (case kBu => k_is)
    (case aLB => k_is)
    (case lLB => k_is)
    (case cLB => k_is)
    (case kLB => k_is)
    (case aLT => k_is)
    (case lLT => k_is)
    (case cLT => k_is)
    (case kLT => k_is)
    (case aLY => k_is)
    (case lLY => k_is)
    (case cLY => k_is)
    (case kLY => k_is)
    (case aLP => k_is)
    (case lLP => k_is)
    (case cLP => k_is)
    (case kLP => k_is)
    (case aLD => k_is)
    (case lLD => k_is)
    (case cLD => k_is)
    (case kLD => k_is)
    (case aLS => k_is)
    (case lLS => k_is)
    (case cLS => k_is)
    (case kLS => k_is)
    (case aLI => k_is)
    (case lLI => k_is)
    (case cLI => k_is)
    (case kLI => k_is)
    (case aLQ => k_is)
    (case lLQ => k_is)
    (case cLQ => k_is)
    (case kLQ => k_is)
    (case aLZ => k_is)
    (case lLZ => k_is)
    (case cLZ => k_is)
    (case kLZ => k_is)
    (case aLL => k_is)
    (case lLL => k_is)
    (case cLL => k_is)
    (case kLL => k_is)
    (case z_sorted => k_is)
    (case z_tuple => k_is)
    (case z_list => k_is)
    (case z_range => k_is)
    (case z_min => k_is)
    (case z_len => k_is)
    (case z_abs => k_is)
    (case z_isinstance => k_is)
    (case z_int => k_is)
    (case z_bool => k_is)
    (case z_all => k_is)
