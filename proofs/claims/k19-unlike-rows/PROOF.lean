import PyProof.Rows.All
import Wide.All
import OpenK.AllK
import Wide.FinOn
import HandS.ForMost
import HandS.Conv
import HandS.Codes
import PySem.Challenge.RW_asktally_k19_whole_unlike_rows_part
set_option Elab.async false
set_option linter.all false
set_option maxRecDepth 100000
set_option maxHeartbeats 4000000
namespace Ask
open Lean.Grind
/-! ### the ring side -/
section
variable {R : Type} [CommRing R]
def dR (v : Nat → R) : Nat → R := fun j => v (j + 1) - v j
def dn : Nat → (Nat → R) → (Nat → R)
  | 0, v => v
  | n + 1, v => dn n (dR v)
theorem dn_succ : ∀ (n : Nat) (v : Nat → R), dn (n + 1) v = dR (dn n v)
  | 0, _ => rfl
  | n + 1, v => dn_succ n (dR v)
def sR (kk iv : Nat → R) (x : R) : Nat → R
  | 0 => 1
  | k + 1 => sR kk iv x k * (x - kk k) * iv (k + 1)
def nw (kk iv : Nat → R) (x : R) (v : Nat → R) : Nat → R
  | 0 => 0
  | n + 1 => nw kk iv x v n + sR kk iv x n * dn n v 0
variable {kk iv : Nat → R}
theorem pascal (h0 : kk 0 = 0) (hs : ∀ k, kk (k + 1) = kk k + 1) (x : R) : ∀ i, (∀ j, 1 ≤ j → j ≤ i + 1 → kk j * iv j = 1) →
    sR kk iv (x + 1) (i + 1) = sR kk iv x (i + 1) + sR kk iv x i
  | 0, h => by
    have h1 := h 1 (by omega) (by omega)
    have h2 := hs 0
    simp only [sR]
    simp only [Nat.zero_add] at h2 ⊢
    grind
  | i + 1, h => by
    have ih := pascal h0 hs x i (fun j a b => h j a (by omega))
    have h1 := h (i + 1) (by omega) (by omega)
    have h2 := h (i + 2) (by omega) (by omega)
    have k1 := hs i
    have k2 := hs (i + 1)
    have e1 : sR kk iv (x + 1) (i + 1 + 1) = sR kk iv (x + 1) (i + 1) * (x + 1 - kk (i + 1)) * iv (i + 2) := rfl
    have e2 : sR kk iv x (i + 1 + 1) = sR kk iv x (i + 1) * (x - kk (i + 1)) * iv (i + 2) := rfl
    have e3 : sR kk iv x (i + 1) = sR kk iv x i * (x - kk i) * iv (i + 1) := rfl
    rw [e1, ih, e2]
    generalize sR kk iv x (i + 1) = A at *
    generalize sR kk iv x i = B at *
    grind
theorem nw_step (h0 : kk 0 = 0) (hs : ∀ k, kk (k + 1) = kk k + 1) (x : R) (v : Nat → R) : ∀ n, (∀ j, 1 ≤ j → j ≤ n → kk j * iv j = 1) →
    nw kk iv (x + 1) v (n + 1) = nw kk iv x v (n + 1) + nw kk iv x (dR v) n
  | 0, h => by
    simp only [nw, sR, dn]
    grind
  | n + 1, h => by
    have ih := nw_step h0 hs x v n (fun j a b => h j a (by omega))
    have hp := pascal h0 hs x n h
    have e1 : nw kk iv (x + 1) v (n + 1 + 1) = nw kk iv (x + 1) v (n + 1) + sR kk iv (x + 1) (n + 1) * dn (n + 1) v 0 := rfl
    have e2 : nw kk iv x v (n + 1 + 1) = nw kk iv x v (n + 1) + sR kk iv x (n + 1) * dn (n + 1) v 0 := rfl
    have e3 : nw kk iv x (dR v) (n + 1) = nw kk iv x (dR v) n + sR kk iv x n * dn (n + 1) v 0 := rfl
    rw [e1, e2, e3, ih, hp]
    grind
theorem sR_zero (h0 : kk 0 = 0) : ∀ k, sR kk iv 0 (k + 1) = 0
  | 0 => by
    have e : sR kk iv 0 (0 + 1) = 1 * (0 - kk 0) * iv 1 := rfl
    rw [e, h0]
    grind
  | k + 1 => by
    have e : sR kk iv 0 (k + 1 + 1) = sR kk iv 0 (k + 1) * (0 - kk (k + 1)) * iv (k + 2) := rfl
    rw [e, sR_zero h0 k]
    grind
theorem nw_zero (h0 : kk 0 = 0) (v : Nat → R) : ∀ n, nw kk iv 0 v (n + 1) = v 0
  | 0 => by
    simp only [nw, sR, dn]
    grind
  | n + 1 => by
    have e : nw kk iv 0 v (n + 1 + 1) = nw kk iv 0 v (n + 1) + sR kk iv 0 (n + 1) * dn (n + 1) v 0 := rfl
    rw [e, nw_zero h0 v n, sR_zero h0]
    grind
/-- at the places of the row the rule has the row's values -/
theorem nw_at (h0 : kk 0 = 0) (hs : ∀ k, kk (k + 1) = kk k + 1) : ∀ (j n : Nat) (v : Nat → R), j < n → (∀ i, 1 ≤ i → i < n → kk i * iv i = 1) → nw kk iv (kk j) v n = v j
  | 0, 0, v, h, _ => by omega
  | 0, n + 1, v, _, _ => by rw [h0]; exact nw_zero h0 v n
  | j + 1, 0, v, h, _ => by omega
  | j + 1, 1, v, h, _ => by omega
  | j + 1, n + 2, v, h, hi => by
    have a := nw_step h0 hs (kk j) v (n + 1) (fun i p q => hi i p (by omega))
    have b := nw_at h0 hs j (n + 2) v (by omega) hi
    have c := nw_at h0 hs j (n + 1) (dR v) (by omega) (fun i p q => hi i p (by omega))
    rw [hs, a, b, c]
    simp only [dR]
    grind
theorem dn_lin (c : R) : ∀ (n : Nat) (v w : Nat → R) (j : Nat), dn n (fun i => v i + c * w i) j = dn n v j + c * dn n w j
  | 0, _, _, _ => rfl
  | n + 1, v, w, j => by
    rw [dn_succ, dn_succ, dn_succ]
    simp only [dR]
    rw [dn_lin c n v w, dn_lin c n v w]
    grind
theorem nw_lin (c x : R) (v w : Nat → R) : ∀ n, nw kk iv x (fun i => v i + c * w i) n = nw kk iv x v n + c * nw kk iv x w n
  | 0 => by
    simp only [nw]
    grind
  | n + 1 => by
    simp only [nw]
    rw [nw_lin c x v w n, dn_lin]
    grind
/-! ### degrees -/
def Deg : Nat → (R → R) → Prop
  | 0, f => ∀ x, f x = 0
  | n + 1, f => ∀ a, ∃ (c : R) (g : R → R), Deg n g ∧ ∀ x, f x = c + (x - a) * g x
theorem deg_congr : ∀ {n : Nat} {f g : R → R}, Deg n f → (∀ x, g x = f x) → Deg n g
  | 0, f, g, h, e => fun x => by rw [e]; exact h x
  | n + 1, f, g, h, e => fun a => by
    obtain ⟨c, q, hq, k⟩ := h a
    exact ⟨c, q, hq, fun x => by rw [e]; exact k x⟩
theorem deg_zero : ∀ n : Nat, Deg n (fun _ : R => (0 : R))
  | 0 => fun _ => rfl
  | n + 1 => fun a => ⟨0, fun _ => 0, deg_zero n, fun x => by grind⟩
theorem deg_lin (b : R) : ∀ {n : Nat} {f g : R → R}, Deg n f → Deg n g → Deg n (fun x => f x + b * g x)
  | 0, f, g, h, k => fun x => by
    have h1 := h x
    have k1 := k x
    show f x + b * g x = 0
    grind
  | n + 1, f, g, h, k => fun a => by
    obtain ⟨c, q, hq, e⟩ := h a
    obtain ⟨c', q', hq', e'⟩ := k a
    refine ⟨c + b * c', fun x => q x + b * q' x, deg_lin b hq hq', fun x => ?_⟩
    show f x + b * g x = _
    rw [e x, e' x]
    grind
theorem deg_up : ∀ {n : Nat} {f : R → R}, Deg n f → Deg (n + 1) f
  | 0, f, h => fun a => ⟨0, fun _ => 0, fun _ => rfl, fun x => by
    have h1 := h x
    grind⟩
  | n + 1, f, h => fun a => by
    obtain ⟨c, q, hq, e⟩ := h a
    exact ⟨c, q, deg_up hq, e⟩
theorem deg_le {n m : Nat} {f : R → R} (h : Deg n f) (l : n ≤ m) : Deg m f := by
  induction l with
  | refl => exact h
  | step _ ih => exact deg_up ih
theorem deg_mul (b : R) : ∀ {n : Nat} {f : R → R}, Deg n f → Deg (n + 1) (fun x => f x * (x - b))
  | 0, f, h => fun a => ⟨0, fun _ => 0, fun _ => rfl, fun x => by
    have h1 := h x
    show f x * (x - b) = _
    grind⟩
  | n + 1, f, h => fun a => by
    obtain ⟨c, q, hq, e⟩ := h a
    refine ⟨(a - b) * c, fun x => f x + (a - b) * q x, deg_lin _ h (deg_up hq), fun x => ?_⟩
    show f x * (x - b) = _
    have e1 := e x
    grind
theorem deg_const (c : R) : Deg 1 (fun _ : R => c) := fun a => ⟨c, fun _ => 0, fun _ => rfl, fun x => by grind⟩
theorem deg_smul (b : R) {n : Nat} {f : R → R} (h : Deg n f) : Deg n (fun x => f x * b) :=
  deg_congr (deg_lin b (deg_zero n) h) fun x => by grind
theorem deg_sR : ∀ i, Deg (i + 1) (fun x : R => sR kk iv x i)
  | 0 => deg_const 1
  | i + 1 => deg_smul (iv (i + 1)) (deg_mul (kk i) (deg_sR i))
theorem deg_nw (v : Nat → R) : ∀ n, Deg n (fun x : R => nw kk iv x v n)
  | 0 => fun _ => rfl
  | n + 1 => by
    refine deg_congr (deg_lin (dn n v 0) (deg_up (deg_nw v n)) (deg_sR (kk := kk) (iv := iv) n)) fun x => ?_
    show nw kk iv x v n + sR kk iv x n * dn n v 0 = _
    grind
/-- a rule of low degree with as many noughts is nought -/
theorem deg_roots (nz : ∀ a b : R, a * b = 0 → a = 0 ∨ b = 0) : ∀ {n : Nat} {f : R → R} {l : List R}, Deg n f → l.Nodup → n ≤ l.length → (∀ x ∈ l, f x = 0) → ∀ x, f x = 0
  | 0, f, l, h, _, _, _ => h
  | n + 1, f, [], h, _, hl, _ => by simp at hl
  | n + 1, f, a :: l, h, nd, hl, hz => by
    obtain ⟨c, g, hg, e⟩ := h a
    have c0 : c = 0 := by
      have h1 := e a
      have h2 := hz a (List.mem_cons_self ..)
      grind
    have nd' := List.nodup_cons.mp nd
    have z := deg_roots nz (l := l) hg nd'.2 (by simpa using hl) fun x hx => by
      have h1 := e x
      have h2 := hz x (List.mem_cons_of_mem _ hx)
      have h3 : (x - a) * g x = 0 := by grind
      rcases nz _ _ h3 with q | q
      · have e2 : x = a := by grind
        rw [e2] at hx
        exact absurd hx nd'.1
      · exact q
    intro x
    have h1 := e x
    have h2 := z x
    grind
end
end Ask
namespace Ask
open Lean.Grind
def pR {R : Type} [CommRing R] : List R → (R → R) → (R → R)
  | [], g => g
  | b :: l, g => pR l (fun x => g x * (x - b))
theorem deg_pR {R : Type} [CommRing R] : ∀ (l : List R) {n : Nat} {g : R → R}, Deg n g → Deg (n + l.length) (pR l g)
  | [], _, _, h => h
  | b :: l, n, g, h => by
    have q := deg_pR l (deg_mul b h)
    have e : n + (b :: l).length = n + 1 + l.length := by rw [List.length_cons]; omega
    rw [e]
    exact q
theorem pR_zero {R : Type} [CommRing R] (nz : ∀ a b : R, a * b = 0 → a = 0 ∨ b = 0) (x : R) : ∀ (l : List R) (g : R → R), pR l g x = 0 ↔ (g x = 0 ∨ x ∈ l)
  | [], g => by simp [pR]
  | b :: l, g => by
    have q := pR_zero nz x l (fun x => g x * (x - b))
    have e : pR (b :: l) g x = pR l (fun x => g x * (x - b)) x := rfl
    rw [e, q, List.mem_cons]
    constructor
    · rintro (h | h)
      · rcases nz _ _ h with h | h
        · exact .inl h
        · exact .inr (.inl (by grind))
      · exact .inr (.inr h)
    · rintro (h | h | h)
      · exact .inl (by rw [h]; grind)
      · exact .inl (by rw [h]; grind)
      · exact .inr h
/-! ### what the program's functions are worth -/
def dif (p : Int) : List Int → List Int
  | x :: y :: r => (y - x) % p :: dif p (y :: r)
  | _ => []
theorem dif_len (p : Int) : ∀ l : List Int, (dif p l).length = l.length - 1
  | [] => rfl
  | [_] => rfl
  | x :: y :: r => by
    show (dif p (y :: r)).length + 1 = (y :: r).length + 1 - 1
    rw [dif_len p (y :: r)]
    show (r.length + 1 - 1) + 1 = r.length + 1 + 1 - 1
    omega
theorem dif_get (p : Int) : ∀ (l : List Int) (i : Nat) (x y : Int), l[i]? = some x → l[i + 1]? = some y → (dif p l)[i]? = some ((y - x) % p)
  | [], _, _, _, h, _ => by simp at h
  | [_], 0, _, _, _, h => by simp at h
  | [_], i + 1, _, _, h, _ => by simp at h
  | a :: b :: r, 0, x, y, h, h2 => by
    have e1 : a = x := Option.some.inj h
    have e2 : b = y := Option.some.inj h2
    rw [← e1, ← e2]
    rfl
  | a :: b :: r, i + 1, x, y, h, h2 => dif_get p (b :: r) i x y h h2
def Dl (p : Int) (xs : List Int) : Nat → List Int
  | 0 => xs.map (· % p)
  | n + 1 => dif p (Dl p xs n)
theorem Dl_len (p : Int) (xs : List Int) : ∀ n, (Dl p xs n).length = xs.length - n
  | 0 => by simp [Dl]
  | n + 1 => by
    show (dif p (Dl p xs n)).length = _
    rw [dif_len, Dl_len p xs n]
    omega
def eg : Nat → Int → Int → Int → Int → Int
  | 0, _, _, m, _ => m
  | n + 1, r, o, m, t => if 0 < o then eg n o (r - r / o * o) t (m - r / o * t) else m
def inv (a p : Int) : Int := eg 24 p a 0 1 % p
def Sh (p r : Int) : Nat → Int
  | 0 => 1
  | k + 1 => Sh p r k * (r - k) * inv (k + 1) p % p
def Fo (p r : Int) (xs : List Int) : Nat → Int
  | 0 => 0
  | k + 1 => (Fo p r xs k + Sh p r k * (Dl p xs k).headD 0) % p
def va (xs : List Int) (r p : Int) : Int := Fo p r xs xs.length
def pd (p x : Int) : List Int → Int → Int
  | [], s => s
  | b :: l, s => pd p x l (s * (x - b) % p)
def Pr (p : Int) : Prop := p = 3 ∨ p = 5 ∨ p = 7 ∨ p = 11 ∨ p = 13 ∨ p = 17 ∨ p = 19 ∨ p = 23
theorem Pr.lo {p : Int} (h : Pr p) : 3 ≤ p := by unfold Pr at h; omega
theorem Pr.hi {p : Int} (h : Pr p) : p ≤ 23 := by unfold Pr at h; omega
theorem inv_all {p : Int} (h : Pr p) : ∀ a : Nat, a < 23 → 1 ≤ a → (a : Int) < p → (a : Int) * inv a p % p = 1 := by
  rcases h with h | h | h | h | h | h | h | h <;> subst h <;> decide +kernel
theorem inv_ok {p : Int} (h : Pr p) {a : Nat} (h1 : 1 ≤ a) (h2 : (a : Int) < p) : (a : Int) * inv a p % p = 1 :=
  inv_all h a (by have := h.hi; omega) h1 h2
theorem inv_in {p : Int} (h : Pr p) (a : Int) : 0 ≤ inv a p ∧ inv a p < p := by
  have := h.lo
  exact ⟨Int.emod_nonneg _ (by omega), Int.emod_lt_of_pos _ (by omega)⟩
theorem Sh_in {p : Int} (h : Pr p) (r : Int) : ∀ k, 0 ≤ Sh p r k ∧ Sh p r k < p
  | 0 => by have := h.lo; exact ⟨by show (0 : Int) ≤ 1; omega, by show (1 : Int) < p; omega⟩
  | k + 1 => by have := h.lo; exact ⟨Int.emod_nonneg _ (by omega), Int.emod_lt_of_pos _ (by omega)⟩
theorem Fo_in {p : Int} (h : Pr p) (r : Int) (xs : List Int) : ∀ k, 0 ≤ Fo p r xs k ∧ Fo p r xs k < p
  | 0 => by have := h.lo; exact ⟨Int.le_refl _, by show (0 : Int) < p; omega⟩
  | k + 1 => by have := h.lo; exact ⟨Int.emod_nonneg _ (by omega), Int.emod_lt_of_pos _ (by omega)⟩
theorem va_in {p : Int} (h : Pr p) (xs : List Int) (r : Int) : 0 ≤ va xs r p ∧ va xs r p < p := Fo_in h r xs _
/-! ### into the field -/
structure Fld (R : Type) [CommRing R] (p : Int) (f : Int → R) : Prop where
  add : ∀ x y, f (x + y) = f x + f y
  sub : ∀ x y, f (x - y) = f x - f y
  mul : ∀ x y, f (x * y) = f x * f y
  one : f 1 = 1
  zero : f 0 = 0
  ker : ∀ x y, f x = f y ↔ x % p = y % p
  nz : ∀ a b : R, a * b = 0 → a = 0 ∨ b = 0
theorem fld_fin (n : Nat) [NeZero n] (nz : ∀ a b : Fin n, a * b = 0 → a = 0 ∨ b = 0) : ∃ f : Int → Fin n, Fld (Fin n) (n : Int) f :=
  ⟨fun x => Ring.intCast.intCast x, Ring.intCast_add, Ring.intCast_sub, Ring.intCast_mul, Ring.intCast_one, Ring.intCast_zero, fun x y => IsCharP.intCast_ext_iff n, nz⟩
theorem fld_any {p : Int} (h : Pr p) : ∃ (R : Type) (_ : CommRing R) (f : Int → R), Fld R p f := by
  rcases h with h | h | h | h | h | h | h | h <;> subst h
  · exact ⟨Fin 3, inferInstance, fld_fin 3 (by decide +kernel)⟩
  · exact ⟨Fin 5, inferInstance, fld_fin 5 (by decide +kernel)⟩
  · exact ⟨Fin 7, inferInstance, fld_fin 7 (by decide +kernel)⟩
  · exact ⟨Fin 11, inferInstance, fld_fin 11 (by decide +kernel)⟩
  · exact ⟨Fin 13, inferInstance, fld_fin 13 (by decide +kernel)⟩
  · exact ⟨Fin 17, inferInstance, fld_fin 17 (by decide +kernel)⟩
  · exact ⟨Fin 19, inferInstance, fld_fin 19 (by decide +kernel)⟩
  · exact ⟨Fin 23, inferInstance, fld_fin 23 (by decide +kernel)⟩
end Ask
namespace Ask
open Lean.Grind
section
variable {R : Type} [CommRing R] {p : Int} {f : Int → R} (F : Fld R p f)
include F
theorem Fld.mod (x : Int) : f (x % p) = f x := (F.ker _ _).mpr (Int.emod_emod_of_dvd x (Int.dvd_refl p))
theorem Fld.eq_of {x y : Int} (h : f x = f y) (h1 : 0 ≤ x) (h2 : x < p) (h3 : 0 ≤ y) (h4 : y < p) : x = y := by
  have q := (F.ker x y).mp h
  rwa [Int.emod_eq_of_lt h1 h2, Int.emod_eq_of_lt h3 h4] at q
theorem Fld.succ (k : Nat) : f ((k + 1 : Nat) : Int) = f (k : Int) + 1 := by
  rw [Int.natCast_add, F.add]
  have e : f ((1 : Nat) : Int) = 1 := F.one
  rw [e]
theorem Fld.zero' : f ((0 : Nat) : Int) = 0 := F.zero
end
/-- the row in the field -/
def rw_ {R : Type} (f : Int → R) (xs : List Int) : Nat → R := fun j => f (xs.getD j 0)
def kkf {R : Type} (f : Int → R) : Nat → R := fun k => f (k : Int)
def ivf {R : Type} (f : Int → R) (p : Int) : Nat → R := fun k => f (inv (k : Int) p)
section
variable {R : Type} [CommRing R] {p : Int} {f : Int → R} (F : Fld R p f) (hp : Pr p)
include F
theorem Dl_f (xs : List Int) : ∀ (i j : Nat), i + j < xs.length → ∃ z, (Dl p xs i)[j]? = some z ∧ f z = dn i (rw_ f xs) j
  | 0, j, h => by
    have h' : j < xs.length := by omega
    refine ⟨xs[j] % p, ?_, ?_⟩
    · show (xs.map (· % p))[j]? = _
      rw [List.getElem?_map, List.getElem?_eq_getElem h']
      rfl
    · rw [F.mod]
      show f xs[j] = f (xs.getD j 0)
      rw [List.getD_eq_getElem?_getD, List.getElem?_eq_getElem h']
      rfl
  | i + 1, j, h => by
    obtain ⟨z1, a1, b1⟩ := Dl_f xs i j (by omega)
    obtain ⟨z2, a2, b2⟩ := Dl_f xs i (j + 1) (by omega)
    refine ⟨(z2 - z1) % p, dif_get p _ j _ _ a1 a2, ?_⟩
    rw [F.mod, F.sub, b1, b2, dn_succ]
    rfl
theorem Sh_f (r : Int) : ∀ k, f (Sh p r k) = sR (kkf f) (ivf f p) (f r) k
  | 0 => F.one
  | k + 1 => by
    show f (Sh p r k * (r - k) * inv (k + 1) p % p) = sR (kkf f) (ivf f p) (f r) k * (f r - kkf f k) * ivf f p (k + 1)
    rw [F.mod, F.mul, F.mul, F.sub, Sh_f r k]
    rfl
theorem Fo_f (r : Int) (xs : List Int) : ∀ k, k ≤ xs.length → f (Fo p r xs k) = nw (kkf f) (ivf f p) (f r) (rw_ f xs) k
  | 0, _ => F.zero
  | k + 1, h => by
    obtain ⟨z, a, b⟩ := Dl_f F xs k 0 (by omega)
    have e : (Dl p xs k).headD 0 = z := by
      rw [List.headD_eq_head?_getD, List.head?_eq_getElem?, a]
      rfl
    show f ((Fo p r xs k + Sh p r k * (Dl p xs k).headD 0) % p) = nw (kkf f) (ivf f p) (f r) (rw_ f xs) k + sR (kkf f) (ivf f p) (f r) k * dn k (rw_ f xs) 0
    rw [F.mod, F.add, F.mul, Fo_f r xs k (by omega), Sh_f F, e, b]
theorem va_f (r : Int) (xs : List Int) : f (va xs r p) = nw (kkf f) (ivf f p) (f r) (rw_ f xs) xs.length := Fo_f F r xs _ (Nat.le_refl _)
theorem nw_congr (kk iv : Nat → R) (x : R) : ∀ (n : Nat) (v w : Nat → R), (∀ j, j < n → v j = w j) → nw kk iv x v n = nw kk iv x w n := by
  have hd : ∀ (n : Nat) (v w : Nat → R) (j m : Nat), n + j < m → (∀ i, i < m → v i = w i) → dn n v j = dn n w j := by
    intro n
    induction n with
    | zero => intro v w j m h e; exact e j (by omega)
    | succ n ih =>
      intro v w j m h e
      show dn n (dR v) j = dn n (dR w) j
      refine ih (dR v) (dR w) j (m - 1) (by omega) fun i hi => ?_
      show v (i + 1) - v i = w (i + 1) - w i
      rw [e (i + 1) (by omega), e i (by omega)]
  intro n
  induction n with
  | zero => intro v w _; rfl
  | succ n ih =>
    intro v w e
    show nw kk iv x v n + sR kk iv x n * dn n v 0 = nw kk iv x w n + sR kk iv x n * dn n w 0
    rw [ih v w fun j h => e j (by omega), hd n v w 0 (n + 1) (by omega) e]
include hp
theorem inv_f {n : Nat} (hn : (n : Int) ≤ p) : ∀ i, 1 ≤ i → i < n → kkf f i * ivf f p i = 1 := fun i h1 h2 => by
  have q := inv_ok hp (a := i) h1 (by omega)
  show f (i : Int) * f (inv (i : Int) p) = 1
  rw [← F.mul, ← F.one, F.ker, q]
  have := hp.lo
  exact (Int.emod_eq_of_lt (by omega) (by omega)).symm
end
theorem getD_at {xs : List Int} {j : Nat} (h : j < xs.length) : xs.getD j 0 = xs[j] := by
  rw [List.getD_eq_getElem?_getD, List.getElem?_eq_getElem h]
  rfl
/-! ### the laws of value_at, in whole numbers -/
theorem va_at {p : Int} (hp : Pr p) {xs : List Int} (hn : (xs.length : Int) ≤ p) {j : Nat} (hj : j < xs.length) (h0 : 0 ≤ xs[j]) (h1 : xs[j] < p) : va xs j p = xs[j] := by
  obtain ⟨R, _, f, F⟩ := fld_any hp
  refine F.eq_of ?_ (va_in hp _ _).1 (va_in hp _ _).2 h0 h1
  rw [va_f F]
  have q := nw_at (kk := kkf f) (iv := ivf f p) F.zero' F.succ j xs.length (rw_ f xs) hj (inv_f F hp hn)
  refine q.trans ?_
  show f (xs.getD j 0) = _
  rw [getD_at hj]
theorem va_sub {p : Int} (hp : Pr p) {xs ys gs : List Int} (hy : ys.length = xs.length) (hg : gs.length = xs.length)
    (h : ∀ j (hj : j < xs.length), gs[j]'(by omega) = (xs[j] - ys[j]'(by omega)) % p) (r : Int) : va gs r p = (va xs r p - va ys r p) % p := by
  obtain ⟨R, _, f, F⟩ := fld_any hp
  have hlo := hp.lo
  refine F.eq_of ?_ (va_in hp _ _).1 (va_in hp _ _).2 (Int.emod_nonneg _ (by omega)) (Int.emod_lt_of_pos _ (by omega))
  rw [F.mod, F.sub, va_f F, va_f F, va_f F, hg, hy]
  have e := nw_lin (kk := kkf f) (iv := ivf f p) (-1 : R) (f r) (rw_ f xs) (rw_ f ys) xs.length
  rw [nw_congr F (kkf f) (ivf f p) (f r) xs.length (rw_ f gs) (fun i => rw_ f xs i + -1 * rw_ f ys i) (fun j hj => ?_), e]
  · grind
  · show f (gs.getD j 0) = f (xs.getD j 0) + -1 * f (ys.getD j 0)
    rw [getD_at (by omega), getD_at hj, getD_at (by omega), h j hj, F.mod, F.sub]
    grind
theorem va_mul {p : Int} (hp : Pr p) {xs ts : List Int} {c : Int} (ht : ts.length = xs.length)
    (h : ∀ j (hj : j < xs.length), ts[j]'(by omega) = xs[j] * c % p) (r : Int) : va ts r p = va xs r p * c % p := by
  obtain ⟨R, _, f, F⟩ := fld_any hp
  have hlo := hp.lo
  refine F.eq_of ?_ (va_in hp _ _).1 (va_in hp _ _).2 (Int.emod_nonneg _ (by omega)) (Int.emod_lt_of_pos _ (by omega))
  rw [F.mod, F.mul, va_f F, va_f F, ht]
  have e := nw_lin (kk := kkf f) (iv := ivf f p) (f c) (f r) (fun _ => 0) (rw_ f xs) xs.length
  have e0 := nw_lin (kk := kkf f) (iv := ivf f p) (-1) (f r) (rw_ f xs) (rw_ f xs) xs.length
  rw [nw_congr F (kkf f) (ivf f p) (f r) xs.length (rw_ f ts) (fun i => 0 + f c * rw_ f xs i) (fun j hj => ?_), e,
    nw_congr F (kkf f) (ivf f p) (f r) xs.length (fun _ => 0) (fun i => rw_ f xs i + -1 * rw_ f xs i) (fun j hj => ?_), e0]
  · grind
  · show (0 : R) = rw_ f xs j + -1 * rw_ f xs j
    grind
  · show f (ts.getD j 0) = 0 + f c * f (xs.getD j 0)
    rw [getD_at (by omega), getD_at hj, h j hj, F.mod, F.mul]
    grind
/-! ### where two rows meet -/
def upto (n : Nat) : List Int := (List.range n).map Int.ofNat
theorem mem_upto {n : Nat} {x : Int} : x ∈ upto n ↔ 0 ≤ x ∧ x < n := by
  unfold upto
  rw [List.mem_map]
  constructor
  · rintro ⟨k, h, rfl⟩
    have := List.mem_range.mp h
    exact ⟨Int.natCast_nonneg k, by show ((k : Nat) : Int) < n; omega⟩
  · rintro ⟨h1, h2⟩
    exact ⟨x.toNat, List.mem_range.mpr (by omega), by show ((x.toNat : Nat) : Int) = x; omega⟩
theorem upto_lt (n : Nat) : (upto n).Pairwise (· < ·) := by
  unfold upto
  rw [List.pairwise_map]
  refine List.Pairwise.imp (fun {a b} h => ?_) (List.pairwise_lt_range (n := n))
  show ((a : Nat) : Int) < ((b : Nat) : Int)
  omega
def agree (xs ys : List Int) (p : Int) (n : Nat) : List Int := (upto n).filter fun r => decide (va xs r p = va ys r p)
theorem mem_agree {xs ys : List Int} {p : Int} {n : Nat} {r : Int} : r ∈ agree xs ys p n ↔ (0 ≤ r ∧ r < n) ∧ va xs r p = va ys r p := by
  unfold agree
  rw [List.mem_filter, mem_upto, decide_eq_true_eq]
theorem agree_lt (xs ys : List Int) (p : Int) (n : Nat) : (agree xs ys p n).Pairwise (· < ·) := (upto_lt n).sublist List.filter_sublist
theorem agree_succ (xs ys : List Int) (p : Int) (n : Nat) : agree xs ys p (n + 1) = agree xs ys p n ++ (if va xs n p = va ys n p then [(n : Int)] else []) := by
  unfold agree upto
  rw [List.range_succ, List.map_append, List.filter_append]
  congr 1
  show List.filter _ [((n : Nat) : Int)] = _
  by_cases h : va xs n p = va ys n p
  · rw [if_pos h, List.filter_cons_of_pos (by simpa using h)]
    rfl
  · rw [if_neg h, List.filter_cons_of_neg (by simpa using h)]
    rfl
theorem lt_uniq : ∀ {l m : List Int}, l.Pairwise (· < ·) → m.Pairwise (· < ·) → (∀ x, x ∈ l ↔ x ∈ m) → l = m
  | [], [], _, _, _ => rfl
  | [], b :: m, _, _, h => by have := (h b).mpr (List.mem_cons_self ..); simp at this
  | a :: l, [], _, _, h => by have := (h a).mp (List.mem_cons_self ..); simp at this
  | a :: l, b :: m, hl, hm, h => by
    have l1 := List.pairwise_cons.mp hl
    have m1 := List.pairwise_cons.mp hm
    have e : a = b := by
      rcases List.mem_cons.mp ((h a).mp (List.mem_cons_self ..)) with q | q
      · exact q
      · rcases List.mem_cons.mp ((h b).mpr (List.mem_cons_self ..)) with q' | q'
        · exact q'.symm
        · have x1 := m1.1 a q
          have x2 := l1.1 b q'
          omega
    subst e
    rw [lt_uniq l1.2 m1.2 fun x => ?_]
    constructor
    · intro hx
      rcases List.mem_cons.mp ((h x).mp (List.mem_cons_of_mem _ hx)) with q | q
      · have := l1.1 x hx; omega
      · exact q
    · intro hx
      rcases List.mem_cons.mp ((h x).mpr (List.mem_cons_of_mem _ hx)) with q | q
      · have := m1.1 x hx; omega
      · exact q
/-- two rows that meet as often as they are long are one -/
theorem rows_one {p : Int} (hp : Pr p) {xs ys : List Int} (hy : ys.length = xs.length) (hn : (xs.length : Int) ≤ p) (h1 : ∀ z ∈ xs, 0 ≤ z ∧ z < p) (h2 : ∀ z ∈ ys, 0 ≤ z ∧ z < p)
    {l : List Int} (nd : l.Nodup) (hl : xs.length ≤ l.length) (hin : ∀ r ∈ l, 0 ≤ r ∧ r < p) (hz : ∀ r ∈ l, va xs r p = va ys r p) : xs = ys := by
  obtain ⟨R, _, f, F⟩ := fld_any hp
  have hd : Deg xs.length (fun x : R => nw (kkf f) (ivf f p) x (rw_ f xs) xs.length + (-1) * nw (kkf f) (ivf f p) x (rw_ f ys) xs.length) := deg_lin _ (deg_nw _ _) (deg_nw _ _)
  have hroot := deg_roots F.nz (l := l.map f) hd ?_ (by simpa using hl) ?_
  · refine List.ext_getElem hy.symm fun j a b => ?_
    have e1 := nw_at (kk := kkf f) (iv := ivf f p) F.zero' F.succ j xs.length (rw_ f xs) a (inv_f F hp hn)
    have e2 := nw_at (kk := kkf f) (iv := ivf f p) F.zero' F.succ j xs.length (rw_ f ys) a (inv_f F hp hn)
    have e3 := hroot (kkf f j)
    rw [e1, e2] at e3
    have e4 : f (xs.getD j 0) = f (ys.getD j 0) := by
      show rw_ f xs j = rw_ f ys j
      grind
    rw [getD_at a, getD_at b] at e4
    have q1 := h1 _ (List.getElem_mem a)
    have q2 := h2 _ (List.getElem_mem b)
    exact F.eq_of e4 q1.1 q1.2 q2.1 q2.2
  · unfold List.Nodup
    rw [List.pairwise_map]
    refine List.Pairwise.imp_of_mem (fun {a b} ha hb ne e => ne ?_) nd
    exact F.eq_of e (hin a ha).1 (hin a ha).2 (hin b hb).1 (hin b hb).2
  · intro x hx
    obtain ⟨r, hr, rfl⟩ := List.mem_map.mp hx
    have q := hz r hr
    have a := va_f F r xs
    have b := va_f F r ys
    rw [hy] at b
    show nw (kkf f) (ivf f p) (f r) (rw_ f xs) xs.length + (-1) * nw (kkf f) (ivf f p) (f r) (rw_ f ys) xs.length = 0
    rw [← a, ← b, q]
    grind
theorem agree_few {p : Int} (hp : Pr p) {xs ys : List Int} (hy : ys.length = xs.length) (hn : (xs.length : Int) ≤ p) (h1 : ∀ z ∈ xs, 0 ≤ z ∧ z < p) (h2 : ∀ z ∈ ys, 0 ≤ z ∧ z < p) (ne : xs ≠ ys) {n : Nat} (e : (n : Int) = p) :
    (agree xs ys p n).length < xs.length := by
  refine Nat.lt_of_not_le fun q => ne ?_
  refine rows_one hp hy hn h1 h2 ((agree_lt xs ys p n).imp fun h => by omega) q (fun r hr => ?_) fun r hr => (mem_agree.mp hr).2
  have := (mem_agree.mp hr).1
  omega
/-- a row but at one place like the other -/
theorem agree_but {p : Int} (hp : Pr p) {xs ys : List Int} {k : Nat} (hy : ys.length = xs.length) (hn : (xs.length : Int) ≤ p) (h1 : ∀ z ∈ xs, 0 ≤ z ∧ z < p) (h2 : ∀ z ∈ ys, 0 ≤ z ∧ z < p) (ne : xs ≠ ys)
    (hk : k < xs.length) (same : ∀ (j : Nat) (h : j < xs.length), j ≠ k → xs[j] = ys[j]'(by omega)) {n : Nat} (e : (n : Int) = p) :
    agree xs ys p n = (upto xs.length).filter fun j => decide (j ≠ (k : Int)) := by
  have inn : ∀ x, x ∈ (upto xs.length).filter (fun j => decide (j ≠ (k : Int))) → x ∈ agree xs ys p n := by
    intro x h
    rw [List.mem_filter, mem_upto, decide_eq_true_eq] at h
    obtain ⟨⟨a, b⟩, c⟩ := h
    obtain ⟨j, rfl⟩ : ∃ j : Nat, x = (j : Int) := ⟨x.toNat, by omega⟩
    have hj : j < xs.length := by omega
    have s := same j hj (by omega)
    have q1 := h1 _ (List.getElem_mem hj)
    have q2 := h2 _ (List.getElem_mem (show j < ys.length by omega))
    refine mem_agree.mpr ⟨⟨a, by omega⟩, ?_⟩
    rw [va_at hp hn hj q1.1 q1.2, va_at hp (by omega) (by omega) q2.1 q2.2, s]
  have len : ((upto xs.length).filter (fun j => decide (j ≠ (k : Int)))).length + 1 ≥ xs.length := by
    have cp := List.length_eq_countP_add_countP (l := upto xs.length) (fun j => decide (j ≠ (k : Int)))
    rw [List.countP_eq_length_filter] at cp
    have c1 : List.countP (fun a => decide ¬decide (a ≠ (k : Int)) = true) (upto xs.length) ≤ 1 := by
      have e1 : List.countP (fun a => decide ¬decide (a ≠ (k : Int)) = true) (upto xs.length) = List.count (k : Int) (upto xs.length) := by
        unfold List.count
        refine List.countP_congr fun x _ => ?_
        simp
      rw [e1]
      have nd : (upto xs.length).Nodup := (upto_lt xs.length).imp fun h => by omega
      exact List.nodup_iff_count.mp nd _
    have c2 : (upto xs.length).length = xs.length := by simp [upto]
    omega
  refine lt_uniq (agree_lt _ _ _ _) ((upto_lt _).sublist List.filter_sublist) fun x => ⟨fun hx => ?_, inn x⟩
  refine Decidable.byContradiction fun no => ne ?_
  have nd : (x :: (upto xs.length).filter (fun j => decide (j ≠ (k : Int)))).Nodup := List.nodup_cons.mpr ⟨no, ((upto_lt _).sublist List.filter_sublist).imp fun h => by omega⟩
  refine rows_one hp hy hn h1 h2 nd (by rw [List.length_cons]; exact len) (fun r hr => ?_) (fun r hr => ?_)
  · rcases List.mem_cons.mp hr with q | q
    · subst q
      have := (mem_agree.mp hx).1
      omega
    · have := (mem_agree.mp (inn r q)).1
      omega
  · rcases List.mem_cons.mp hr with q | q
    · subst q
      exact (mem_agree.mp hx).2
    · exact (mem_agree.mp (inn r q)).2
/-! ### products of differences -/
theorem pd_f {R : Type} [CommRing R] {p : Int} {f : Int → R} (F : Fld R p f) (x : Int) : ∀ (l : List Int) (s : Int) (g : R → R), g (f x) = f s → f (pd p x l s) = pR (l.map f) g (f x)
  | [], s, g, e => e.symm
  | b :: l, s, g, e => by
    show f (pd p x l (s * (x - b) % p)) = pR (l.map f) (fun y => g y * (y - f b)) (f x)
    refine pd_f F x l _ _ ?_
    show g (f x) * (f x - f b) = _
    rw [F.mod, F.mul, F.sub, e]
theorem pd_in {p : Int} (hp : Pr p) (x : Int) : ∀ (l : List Int) (s : Int), 0 ≤ s → s < p → 0 ≤ pd p x l s ∧ pd p x l s < p
  | [], s, h0, h1 => ⟨h0, h1⟩
  | b :: l, s, _, _ => by
    have := hp.lo
    exact pd_in hp x l _ (Int.emod_nonneg _ (by omega)) (Int.emod_lt_of_pos _ (by omega))
/-- a row and another more by a product of differences meet at just these -/
theorem agree_roots {p : Int} (hp : Pr p) {xs ys ls ss : List Int} {c : Int} (hy : ys.length = xs.length) (hn : (xs.length : Int) ≤ p) (c0 : 0 < c) (c1 : c < p) (nd : ls.Nodup) (hin : ∀ r ∈ ls, 0 ≤ r ∧ r < p) (few : ls.length < xs.length)
    (h : ∀ j (hj : j < xs.length), ys[j]'(by omega) = (xs[j] + pd p j ls c) % p) (perm : ss.Perm ls) (srt : ss.Pairwise (· ≤ ·)) {n : Nat} (e : (n : Int) = p) :
    agree xs ys p n = ss ∧ ss.length < xs.length := by
  refine ⟨?_, by rw [perm.length_eq]; exact few⟩
  obtain ⟨R, _, f, F⟩ := fld_any hp
  have hlo := hp.lo
  -- the product's rule, of few degrees
  have hd1 : Deg (1 + (ls.map f).length) (pR (ls.map f) (fun _ => f c)) := deg_pR _ (deg_const _)
  have hd : Deg xs.length (fun x : R => nw (kkf f) (ivf f p) x (rw_ f ys) xs.length + (-1) * (nw (kkf f) (ivf f p) x (rw_ f xs) xs.length + 1 * pR (ls.map f) (fun _ => f c) x)) :=
    deg_lin _ (deg_nw _ _) (deg_lin _ (deg_nw _ _) (deg_le hd1 (by rw [List.length_map]; omega)))
  have key := deg_roots F.nz (l := (List.range xs.length).map fun (k : Nat) => f (k : Int)) hd ?_ (by simp) ?_
  · have all : ∀ x : Int, f (va ys x p) = f (va xs x p) + pR (ls.map f) (fun _ => f c) (f x) := by
      intro x
      have a := va_f F x ys
      have b := va_f F x xs
      rw [hy] at a
      have k := key (f x)
      have k' : nw (kkf f) (ivf f p) (f x) (rw_ f ys) xs.length + (-1) * (nw (kkf f) (ivf f p) (f x) (rw_ f xs) xs.length + 1 * pR (ls.map f) (fun _ => f c) (f x)) = 0 := k
      rw [← a, ← b] at k'
      grind
    have fc : f c ≠ 0 := by
      rw [← F.zero]
      intro q
      have := F.eq_of q (by omega) c1 (by omega) (by omega)
      omega
    have nds : ss.Nodup := perm.nodup_iff.mpr nd
    have srt' : ss.Pairwise (· < ·) := by
      have both := List.Pairwise.and srt nds
      refine both.imp fun {a b} h => ?_
      have h1 : a ≤ b := h.1
      have h2 : a ≠ b := h.2
      omega
    refine lt_uniq (agree_lt _ _ _ _) srt' fun x => ?_
    rw [mem_agree, perm.mem_iff]
    have z := pR_zero F.nz (f x) (ls.map f) (fun _ => f c)
    constructor
    · rintro ⟨⟨a, b⟩, d⟩
      have k := all x
      rw [d] at k
      have k0 : pR (ls.map f) (fun _ => f c) (f x) = 0 := by grind
      rcases z.mp k0 with q | q
      · exact absurd q fc
      · obtain ⟨r, hr, er⟩ := List.mem_map.mp q
        have w := hin r hr
        have : r = x := F.eq_of er w.1 w.2 a (by omega)
        rw [← this]
        exact hr
    · intro hx
      have w := hin x hx
      refine ⟨⟨w.1, by omega⟩, ?_⟩
      have k := all x
      have k0 := z.mpr (.inr (List.mem_map_of_mem hx))
      rw [k0] at k
      have k2 : f (va ys x p) = f (va xs x p) := by grind
      exact (F.eq_of k2 (va_in hp _ _).1 (va_in hp _ _).2 (va_in hp _ _).1 (va_in hp _ _).2).symm
  · unfold List.Nodup
    rw [List.pairwise_map]
    refine List.Pairwise.imp_of_mem (fun {a b} ha hb ne e => ne ?_) (List.nodup_range (n := xs.length))
    have a1 := List.mem_range.mp ha
    have b1 := List.mem_range.mp hb
    have := F.eq_of e (by omega) (by omega) (by omega) (by omega)
    omega
  · intro x hx
    obtain ⟨j, hj, rfl⟩ := List.mem_map.mp hx
    have hj' := List.mem_range.mp hj
    have e1 := nw_at (kk := kkf f) (iv := ivf f p) F.zero' F.succ j xs.length (rw_ f xs) hj' (inv_f F hp hn)
    have e2 := nw_at (kk := kkf f) (iv := ivf f p) F.zero' F.succ j xs.length (rw_ f ys) hj' (inv_f F hp hn)
    have e1' : nw (kkf f) (ivf f p) (f (j : Int)) (rw_ f xs) xs.length = f (xs.getD j 0) := e1
    have e2' : nw (kkf f) (ivf f p) (f (j : Int)) (rw_ f ys) xs.length = f (ys.getD j 0) := e2
    have e3 := pd_f F (j : Int) ls c (fun _ => f c) rfl
    show nw (kkf f) (ivf f p) (f (j : Int)) (rw_ f ys) xs.length + (-1) * (nw (kkf f) (ivf f p) (f (j : Int)) (rw_ f xs) xs.length + 1 * pR (ls.map f) (fun _ => f c) (f (j : Int))) = 0
    rw [e1', e2', ← e3, getD_at hj', getD_at (by omega), h j hj', F.mod, F.add]
    grind
end Ask
namespace Ask
open PySem PySem.Spec PyProof.Rows L2
/-! ### the text by its places -/
def topS (i : Nat) : Stmt := PySem.Challenge.pw_asktally_k19_whole_unlike_rows_part.main.body.getD i (.Pass ⟨0, 0, 0, 0⟩)
abbrev sInv : Stmt := topS 1
abbrev sVal : Stmt := topS 3
abbrev sFeed : Stmt := topS 5
abbrev sTake : Stmt := topS 6
abbrev sIsP : Stmt := topS 7
abbrev sPrime : Stmt := topS 8
abbrev sProd : Stmt := topS 9
abbrev sOther : Stmt := topS 10
abbrev sRight : Stmt := topS 11
abbrev sLaw : Stmt := topS 12
theorem scInv : FnScope ["a", "p", "rest", "other", "mine", "theirs", "share"] ["a", "p"] (defScope sInv) := ⟨rfl, rfl, rfl, by decide +kernel, rfl, by decide +kernel, by decide +kernel⟩
theorem scVal : FnScope ["values", "r", "p", "left", "found", "share", "k", "value", "j"] ["values", "r", "p"] (defScope sVal) := ⟨rfl, rfl, rfl, by decide +kernel, rfl, by decide +kernel, by decide +kernel⟩
theorem scFeed : FnScope ["_law_script", "_law_k", "_law_cell", "_law_own"] ["_law_script", "_law_k"] (defScope sFeed) := ⟨rfl, rfl, rfl, by decide +kernel, rfl, by decide +kernel, by decide +kernel⟩
theorem scTake : FnScope ["_law_feed_here", "_law_many", "_law_digit", "_law_one"] ["_law_feed_here", "_law_many"] (defScope sTake) := ⟨rfl, rfl, rfl, by decide +kernel, rfl, by decide +kernel, by decide +kernel⟩
theorem scIsP : FnScope ["_law_number", "_law_k"] ["_law_number"] (defScope sIsP) := ⟨rfl, rfl, rfl, by decide +kernel, rfl, by decide +kernel, by decide +kernel⟩
theorem scPrime : FnScope ["_law_feed_here", "_law_least", "_law_number"] ["_law_feed_here", "_law_least"] (defScope sPrime) := ⟨rfl, rfl, rfl, by decide +kernel, rfl, by decide +kernel, by decide +kernel⟩
theorem scProd : FnScope ["_law_roots", "_law_x", "_law_share", "_law_p", "_law_found", "_law_root"] ["_law_roots", "_law_x", "_law_share", "_law_p"] (defScope sProd) := ⟨rfl, rfl, rfl, by decide +kernel, rfl, by decide +kernel, by decide +kernel⟩
theorem scOther : FnScope ["_law_feed_here", "_law_row", "_law_p", "_law_form", "_law_at", "_law_more", "_law_other_here", "_law_left", "_law_roots", "_law_j", "_law_value"] ["_law_feed_here", "_law_row", "_law_p"] (defScope sOther) := ⟨rfl, rfl, rfl, by decide +kernel, rfl, by decide +kernel, by decide +kernel⟩
theorem scRight : FnScope ["_law_row", "_law_other_here", "_law_meets", "_law_share", "_law_p", "_law_found", "_law_gaps", "_law_times", "_law_r", "_law_one", "_law_two", "_law_j", "_law_value"] ["_law_row", "_law_other_here", "_law_meets", "_law_share", "_law_p"] (defScope sRight) := ⟨rfl, rfl, rfl, by decide +kernel, rfl, by decide +kernel, by decide +kernel⟩
theorem scLaw : FnScope ["_law_script", "_law_k", "_law_feed_here", "_law_many", "_law_p", "_law_row", "_law_other_here", "_law_meets", "_law_j"] ["_law_script"] (defScope sLaw) := ⟨rfl, rfl, rfl, by decide +kernel, rfl, by decide +kernel, by decide +kernel⟩
/-! ### heaps -/
theorem same_new {H : Hp} {p : Addr} {o : HO} (h : H p = none) : Same H (upd H p o) := fun b x e => by
  rw [upd_ne (ne_of_none e h)]
  exact e
/-- a list of whole numbers, read -/
abbrev LI (K : PySem.W.Frag) (H : Hp) (a : Addr) (ns : List Int) : Prop := SqL K H a (ns.map V.int)
theorem at_map {ns : List Int} {i : Nat} (h : i < ns.length) : (ns.map V.int)[i]? = some (.int ns[i]) := by
  rw [List.getElem?_map, List.getElem?_eq_getElem h]
  rfl
theorem at_inv {ns : List Int} {i : Nat} {x : V} (h : (ns.map V.int)[i]? = some x) : ∃ l : i < ns.length, x = .int ns[i] := by
  have l : i < ns.length := by
    have q := (List.getElem?_eq_some_iff.mp h).1
    rwa [List.length_map] at q
  rw [at_map l] at h
  exact ⟨l, (Option.some.inj h).symm⟩
theorem len_map (ns : List Int) : (ns.map V.int).length = ns.length := List.length_map _
theorem line_of {n : Nat} (h : n ≤ 1000) : n ≤ sizeLine := Nat.le_of_lt (small1000 h)
end Ask
namespace Ask
open PySem PySem.Spec PyProof.Rows L2
section
variable {P : Program} {w : World} {K : PySem.W.Frag} {mg : Str → Option Value} {base : Heap}
/-! ### inverse_of -/
def spInv : Sp := fun vs H Q _ => ∃ (a : Nat) (p : Int), vs = [.int (a : Int), .int p] ∧ Pr p ∧ 1 ≤ a ∧ (a : Int) < p ∧ ∀ H', Same H H' → Q (.int (inv (a : Int) p)) H'
theorem eg_stop (n : Nat) {r o m t : Int} (h : ¬ 0 < o) : eg n r o m t = m := by
  cases n with
  | zero => rfl
  | succ n =>
    show (if 0 < o then _ else m) = m
    rw [if_neg h]
theorem eg_turn {n : Nat} {r o m t : Int} (h : 0 < o) : eg (n + 1) r o m t = eg n o (r - r / o * o) t (m - r / o * t) := by
  show (if 0 < o then _ else m) = _
  rw [if_pos h]
theorem eg_rest {r o : Int} (h : 0 < o) : 0 ≤ r - r / o * o ∧ r - r / o * o < o := by
  have e : r - r / o * o = r % o := by rw [Int.emod_def, Int.mul_comm]
  rw [e]
  exact ⟨Int.emod_nonneg _ (by omega), Int.emod_lt_of_pos _ h⟩
theorem eg_quot {r o : Int} (h : 0 < o) (h0 : 0 < r) (h1 : r ≤ 23) : 0 ≤ r / o ∧ r / o ≤ 23 := by
  have a := Int.ediv_nonneg (Int.le_of_lt h0) (Int.le_of_lt h)
  have b := Int.ediv_le_self (b := o) (a := r) (by omega)
  omega
theorem ok_inv {f : Addr} {fd : FuncData} {k : Nat} (F : Fun K "inverse_of" "inverse_of" sInv f fd) : FnOk P w K mg base CX0 (k + 1) f fd ["a", "p"] spInv := by
  refine F.ok scInv (fun vs H Q E h => ?_) (fun cdv A outer s H vs Q E hr h => ?_)
  · obtain ⟨a, p, rfl, _⟩ := h
    rfl
  · obtain ⟨a, p, rfl, hp, h1, h2, q⟩ := h
    have hlo := hp.lo
    have hhi := hp.hi
    refine ⟨_, pss_cons (ps_par (i := 2) (j := 3) (by rfl) scInv.nd rfl rfl (by decide) rfl rfl (pa_cons (pv 1) (pa_cons (pv 0) pa_nil)) (by rfl))
      (pss_cons (ps_asg (pe_tup (pa_cons pe_int (pa_cons pe_int pa_nil))) (pg_tup (by rfl) (pgs_cons (pg_name (i := 4) scInv.nd rfl (.inl rfl)) (pgs_cons (pg_name (i := 5) scInv.nd rfl (.inl rfl)) pgs_nil))))
      (pss_cons (ps_while PassesOwn.never (pt_cmpR op_gt (pv 3) pe_int (nomark _))
        (pss_cons (ps_set (i := 6) scInv.nd rfl (.inl rfl) (pe_op op_fdiv (pv 2) (pv 3)))
        (pss_cons (ps_par (i := 2) (j := 3) (by rfl) scInv.nd rfl rfl (by decide) rfl rfl (pa_cons (pv 3) (pa_cons (pe_op op_sub (pv 2) (pe_op op_mul (pv 6) (pv 3))) pa_nil)) (by rfl))
        (pss_one (ps_par (i := 4) (j := 5) (by rfl) scInv.nd rfl rfl (by decide) rfl rfl (pa_cons (pv 5) (pa_cons (pe_op op_sub (pv 4) (pe_op op_mul (pv 6) (pv 5))) pa_nil)) (by rfl))))))
      (pss_one (ps_ret (pe_op op_mod (pv 4) (pv 1)))))), ?_⟩
    refine ⟨_, rfl, _, rfl, _, _, rfl, (by show 2 ≤ sizeLine; decide), fun T hT => ?_⟩
    refine ⟨T, _, rfl, SqT.of upd_same, rfl, _, _, rfl, _, _, rfl, rfl, ?_⟩
    refine ⟨fun n σ H' => ∃ (r o m t : Int) (y : Option V), σ = [some (.int (a : Int)), some (.int p), some (.int r), some (.int o), some (.int m), some (.int t), y] ∧ 0 < r ∧ r ≤ 23 ∧ 0 ≤ o ∧ o < (n : Int) ∧ o ≤ 23 ∧ eg n r o m t = eg 24 p (a : Int) 0 1 ∧ Same H H',
      ⟨24, p, (a : Int), 0, 1, none, rfl, by omega, by omega, by omega, by omega, by omega, rfl, same_new hT⟩, ?_⟩
    rintro n σ H' ⟨r, o, m, t, y, rfl, r0, r1, o0, o1, o2, e, sm⟩
    refine ⟨_, rfl, _, _, rfl, rfl, _, rfl, ite2 (fun c => ?_) (fun c => ?_)⟩
    · have c' : 0 < o := of_decide_eq_true c
      obtain ⟨n, rfl⟩ : ∃ n', n = n' + 1 := ⟨n - 1, by omega⟩
      have hq := eg_quot c' r0 r1
      have hs := eg_rest (r := r) c'
      refine ⟨fun σ' H2 => ∃ (y : Option V), σ' = [some (.int (a : Int)), some (.int p), some (.int o), some (.int (r - r / o * o)), some (.int t), some (.int (m - r / o * t)), y] ∧ H2 = H', ?_, ?_⟩
      · rintro σ' H2 ⟨y, rfl, rfl⟩
        refine ⟨n, by omega, o, _, t, _, y, rfl, c', o2, hs.1, by omega, by omega, ?_, sm⟩
        rw [← e, eg_turn c']
      · refine ⟨_, rfl, _, rfl, _, _, rfl, rfl, ⟨c', by omega⟩, ?_⟩
        refine ⟨_, rfl, _, rfl, _, rfl, _, rfl, _, _, rfl, rfl, .inl ⟨by omega, by omega⟩, _, _, rfl, rfl, _, _, rfl, ?_⟩
        refine ⟨_, rfl, _, rfl, _, rfl, _, rfl, _, _, rfl, rfl, .inl ⟨by omega, by omega⟩, _, _, rfl, rfl, _, _, rfl, ?_⟩
        exact ⟨_, rfl, rfl⟩
    · have c' : ¬ 0 < o := of_decide_eq_false (Bool.eq_false_iff.mpr c)
      rw [eg_stop n c'] at e
      refine ⟨_, rfl, _, rfl, _, _, rfl, rfl, by omega, ?_⟩
      rw [e]
      exact q _ sm
end
end Ask
namespace Ask
open PySem PySem.Spec PyProof.Rows L2
/-! ### value_at -/
theorem same_updN {H H' : Hp} {D : Addr} {o : HO} (nD : H D = none) (s : Same H H') : Same H (upd H' D o) := fun b u e => by
  rw [upd_ne (ne_of_none e nD)]
  exact s b u e
theorem take_grow {α : Type} {l : List α} {i : Nat} (h : i < l.length) : l.take (i + 1) = l.take i ++ [l[i]] := List.take_succ_eq_append_getElem h
theorem map_take_grow {ns : List Int} {i : Nat} {z : Int} (h : ns[i]? = some z) : (ns.take (i + 1)).map V.int = (ns.take i).map V.int ++ [.int z] := by
  rw [List.take_add_one, h, List.map_append]
  rfl
theorem take_line (ns : List Int) (i : Nat) (h : ns.length ≤ 100) : ((ns.take i).map V.int).length < sizeLine := by
  rw [List.length_map, List.length_take]
  exact Nat.lt_of_le_of_lt (Nat.min_le_right _ _) (small1000 (by omega))
section
variable {P : Program} {w : World} {K : PySem.W.Frag} {mg : Str → Option Value} {base : Heap}
def spVal (K : PySem.W.Frag) : Sp := fun vs H Q _ => ∃ (v : Addr) (xs : List Int) (r p : Int), vs = [.ref v, .int r, .int p] ∧ LI K H v xs ∧ Pr p ∧ 1 ≤ xs.length ∧ xs.length ≤ 12 ∧ (xs.length : Int) ≤ p ∧ 0 ≤ r ∧ r < p ∧
  ∀ H', Same H H' → Q (.int (va xs r p)) H'
theorem ok_val {f fI : Addr} {fd fdI : FuncData} (F : Fun K "value_at" "value_at" sVal f fd) (FI : Fun K "inverse_of" "inverse_of" sInv fI fdI) (bI : Binds K fdI ["a", "p"] []) (gI : mg "inverse_of" = some (.ref fI)) (ml : mg "len" = none) (mr : mg "range" = none) :
    FnOk P w K mg base CX0 2 f fd ["values", "r", "p"] (spVal K) := by
  have GI : FnOk P w K mg base CX0 1 fI fdI ["a", "p"] spInv := ok_inv FI
  refine F.ok scVal (fun vs H Q E h => ?_) (fun cdv A outer s H vs Q E hr h => ?_)
  · obtain ⟨v, xs, r, p, rfl, _⟩ := h
    rfl
  · obtain ⟨v, xs, r, p, rfl, hS, hp, n1, n12, np, r0, r1, q⟩ := h
    have hlo := hp.lo
    have hhi := hp.hi
    refine ⟨_, pss_cons (ps_set (i := 3) scVal.nd rfl (.inr rfl)
        (pe_lc (own := [("value", 7)]) (g := gName 7) (tt := tYes) (by rfl) scVal.nd (pi_list (pv 0)) (blkOk_by (N := ["values", "r", "p", "left", "found", "share", "k", "value", "j"]) (sc := defScope sVal) (by decide +kernel))
          (fun _ _ _ _ _ => pg_name (i := 7) scVal.nd rfl (Or.inl rfl)) (fun _ _ _ _ _ => pts_nil) (fun _ _ _ _ _ => pe_op op_mod (pv 7) (pv 2))))
      (pss_cons (ps_set (i := 4) scVal.nd rfl (.inl rfl) pe_int)
      (pss_cons (ps_set (i := 5) scVal.nd rfl (.inl rfl) pe_int)
      (pss_cons (ps_for PassesOwn.never (by rfl) (pi_range1 (by rfl) mr (pa_cons (pe_callB call_len (by rfl) ml PySem.boot_len (pa_cons (pv 0) pa_nil)) pa_nil)) (pg_name (i := 6) scVal.nd rfl (.inl rfl))
        (pss_cons (ps_set (i := 4) scVal.nd rfl (.inl rfl) (pe_op op_mod (pe_op op_add (pv 4) (pe_op op_mul (pv 5) (pe_ix ix_list (pv 3) pe_int (fun _ _ => rfl)))) (pv 2)))
        (pss_cons (ps_set (i := 3) scVal.nd rfl (.inr rfl)
          (pe_lc (own := [("j", 8)]) (g := gName 8) (tt := tYes) (by rfl) scVal.nd (pi_range1 (by rfl) mr (pa_cons (pe_op op_sub (pe_callB call_len (by rfl) ml PySem.boot_len (pa_cons (pv 3) pa_nil)) pe_int) pa_nil)) (blkOk_by (N := ["values", "r", "p", "left", "found", "share", "k", "value", "j"]) (sc := defScope sVal) (by decide +kernel))
            (fun _ _ _ _ _ => pg_name (i := 8) scVal.nd rfl (Or.inl rfl)) (fun _ _ _ _ _ => pts_nil)
            (fun _ _ _ _ _ => pe_op op_mod (pe_op op_sub (pe_ix (r := rIxL K) ix_list (pv 3) (pe_op op_add (pv 8) pe_int) (fun _ _ => rfl)) (pe_ix (r := rIxL K) ix_list (pv 3) (pv 8) (fun _ _ => rfl))) (pv 2))))
        (pss_one (ps_if (pt_cmpR op_lt (pe_op op_add (pv 6) pe_int) (pe_callB call_len (by rfl) ml PySem.boot_len (pa_cons (pv 0) pa_nil)) (nomark _))
          (pss_one (ps_set (i := 5) scVal.nd rfl (.inl rfl) (pe_op op_mod (pe_op op_mul (pe_op op_mul (pv 5) (pe_op op_sub (pv 1) (pv 6)))
            (pe_call GI hr (by rfl) gI FI.kp bI .nil pass0 (pa_cons (pe_op op_add (pv 6) pe_int) (pa_cons (pv 2) pa_nil)))) (pv 2)))) pss_nil)))))
      (pss_one (ps_ret (pv 4)))))), ?_⟩
    -- left = [value % p for value in values]
    refine ⟨_, rfl, v, rfl, ⟨_, hS⟩, fun D nD => ?_⟩
    refine lc_list (K := K) (a := v) (xs := xs.map V.int) (fun i H' => Same H H' ∧ H' D = some (.lst (((xs.map (· % p)).take i).map V.int)))
      ⟨same_new nD, upd_same⟩ (fun i H' _ h => h.1.seq hS) (fun i x H' hx hP => ?_) (fun H1 hP => ?_)
    · obtain ⟨hi, rfl⟩ := at_inv hx
      refine ⟨rfl, _, rfl, _, rfl, _, _, rfl, rfl, by omega, ?_⟩
      refine ⟨_, hP.2, take_line _ _ (by rw [List.length_map]; omega), same_updN nD hP.1, ?_⟩
      rw [upd_same, map_take_grow (z := xs[i] % p) (by rw [List.getElem?_map, List.getElem?_eq_getElem hi]; rfl)]
    · obtain ⟨s1, e1⟩ := hP
      rw [List.take_of_length_le (by rw [List.length_map, List.length_map]; omega)] at e1
      -- found, share, the loop
      refine ⟨_, rfl, .ref v, xs.length, rfl, .inl ⟨_, s1.seq hS, (len_map xs).symm⟩, _, rfl, by omega, by omega, ?_⟩
      refine for_range (lo := 0) (n := xs.length) (fun i σ H' => ∃ (L : Addr) (sh : Int) (k : Option V), σ = [some (.ref v), some (.int r), some (.int p), some (.ref L), some (.int (Fo p r xs i)), some (.int sh), k, none, none] ∧ (i < xs.length → sh = Sh p r i) ∧ Same H H' ∧ H' L = some (.lst ((Dl p xs i).map V.int)))
        ⟨D, 1, none, rfl, fun _ => rfl, s1, e1⟩ ?_ ?_
      · rintro i σ H2 hi ⟨L, sh, k, rfl, esh, s2, eL⟩
        obtain rfl := esh hi
        have dl := Dl_len p xs i
        have sin := Sh_in hp r i
        have h0 : 0 < (Dl p xs i).length := by omega
        have hd : ((Dl p xs i).map V.int)[0]? = some (.int ((Dl p xs i).headD 0)) := by
          rw [at_map h0, List.headD_eq_head?_getD, List.head?_eq_getElem?, List.getElem?_eq_getElem h0]
          rfl
        -- found
        refine ⟨_, rfl, _, rfl, _, rfl, L, _, 0, _, rfl, rfl, SqL.of eL, atI_nat (j := 0) hd, _, _, rfl, rfl, .inl ⟨by omega, by omega⟩, _, _, rfl, rfl, _, rfl, _, _, rfl, rfl, by omega, ?_⟩
        -- left
        refine ⟨_, rfl, .ref L, xs.length - i, rfl, .inl ⟨_, SqL.of eL, by rw [len_map, dl]⟩, _, _, rfl, rfl, _, rfl, by omega, by omega, fun D2 nD2 => ?_⟩
        have nLD : L ≠ D2 := ne_of_none eL nD2
        have nD2' : H D2 = none := s2.free nD2
        refine lc_range (fun j H' => Same H H' ∧ H' L = some (.lst ((Dl p xs i).map V.int)) ∧ H' D2 = some (.lst (((Dl p xs (i + 1)).take j).map V.int)))
          ⟨same_updN nD2' s2, by rw [upd_ne nLD]; exact eL, upd_same⟩ (fun j H' hj hP => ?_) (fun H3 hP => ?_)
        · have j1 : j + 1 < (Dl p xs i).length := by omega
          have j0 : j < (Dl p xs i).length := by omega
          refine ⟨rfl, _, rfl, _, rfl, _, _, rfl, rfl, L, _, _, _, rfl, rfl, SqL.of hP.2.1, at_of (j := j + 1) (by omega) (at_map j1), _, rfl, _, rfl, L, _, _, _, rfl, rfl, SqL.of hP.2.1, at_of (j := j) (by omega) (at_map j0), _, _, rfl, rfl, _, rfl, _, _, rfl, rfl, by omega, ?_⟩
          refine ⟨_, hP.2.2, take_line _ _ (by rw [Dl_len]; omega), same_updN nD2' hP.1, ?_, ?_⟩
          · rw [upd_ne nLD]
            exact hP.2.1
          · have dg : (Dl p xs (i + 1))[j]? = some (((Dl p xs i)[j + 1] - (Dl p xs i)[j]) % p) := dif_get p (Dl p xs i) j _ _ (List.getElem?_eq_getElem j0) (List.getElem?_eq_getElem j1)
            rw [upd_same, map_take_grow dg]
        · obtain ⟨s3, _, e3⟩ := hP
          rw [List.take_of_length_le (by rw [Dl_len]; omega)] at e3
          -- if k + 1 < len(values)
          refine ⟨_, rfl, _, _, rfl, rfl, _, rfl, .ref v, xs.length, rfl, .inl ⟨_, s3.seq hS, (len_map xs).symm⟩, _, _, rfl, rfl, _, rfl, ite2 (fun c => ?_) (fun c => ?_)⟩
          · have c' : 0 + (i : Int) + 1 < (xs.length : Int) := of_decide_eq_true c
            have e0 : (0 : Int) + (i : Int) + 1 = ((i + 1 : Nat) : Int) := by omega
            have bi := inv_in hp ((i + 1 : Nat) : Int)
            have b2 : 0 ≤ Sh p r i * 0 := by omega
            have bm : -(2 ^ 64 : Int) < Sh p r i * (r - (0 + (i : Int))) ∧ Sh p r i * (r - (0 + (i : Int))) < 2 ^ 64 := by
              have a1 : (r - (0 + (i : Int))).natAbs ≤ 100 := by omega
              have a2 : (Sh p r i).natAbs ≤ 100 := by omega
              have a3 : (Sh p r i * (r - (0 + (i : Int)))).natAbs ≤ 100 * 100 := by
                rw [Int.natAbs_mul]
                exact Nat.mul_le_mul a2 a1
              omega
            refine ⟨_, rfl, _, rfl, _, rfl, _, _, rfl, rfl, _, _, rfl, rfl, .inl ⟨by omega, by omega⟩, _, rfl, _, _, rfl, rfl, _, rfl, i + 1, p, (show [V.int (0 + (i : Int) + 1), V.int p] = [V.int ((i + 1 : Nat) : Int), V.int p] by rw [e0]), hp, by omega, by omega, fun H4 s4 => ?_⟩
            refine ⟨_, _, rfl, rfl, .inl bm, _, rfl, _, _, rfl, rfl, by omega, ?_⟩
            refine ⟨D2, _, _, rfl, fun _ => ?_, s3.trans s4, s4 _ _ e3⟩
            show Sh p r i * (r - (0 + (i : Int))) * inv ((i + 1 : Nat) : Int) p % p = Sh p r i * (r - (i : Int)) * inv ((i : Int) + 1) p % p
            rw [Int.zero_add]
            rfl
          · have c' : ¬ 0 + (i : Int) + 1 < (xs.length : Int) := of_decide_eq_false (Bool.eq_false_iff.mpr c)
            exact ⟨D2, _, _, rfl, fun z => by omega, s3, e3⟩
      · rintro σ H2 ⟨L, sh, k, rfl, _, s2, eL⟩
        exact ⟨_, rfl, q _ s2⟩
end
end Ask
namespace Ask
open PySem PySem.Spec PyProof.Rows L2
/-! ### draws -/
def FeedOk (b : Int) : Prop := 0 ≤ b ∧ b < 2147483647
abbrev FeedAt (H : Hp) (p : Addr) (a b : Int) : Prop := H p = some (.lst [.int a, .int b]) ∧ FeedOk b
section
variable {P : Program} {w : World} {K : PySem.W.Frag} {mg : Str → Option Value} {base : Heap}
def spTake : Sp := fun vs H Q _ => ∃ (p : Addr) (m a b : Int), vs = [.ref p, .int m] ∧ 0 < m ∧ m ≤ 1000 ∧ FeedAt H p a b ∧
  ∀ d a' b', 0 ≤ d → d < m → FeedOk b' → Q (.int d) (upd H p (.lst [.int a', .int b']))
theorem ok_take {f : Addr} {fd : FuncData} {k : Nat} (F : Fun K "_law_take" "_law_take" sTake f fd) : FnOk P w K mg base CX0 (k + 1) f fd ["_law_feed_here", "_law_many"] spTake := by
  refine F.ok scTake (fun vs H Q E h => ?_) (fun cdv A outer s H vs Q E hr h => ?_)
  · obtain ⟨p, m, a, b, rfl, _⟩ := h
    rfl
  · obtain ⟨p, m, a, b, rfl, m0, m1, ⟨hF, b0, b1⟩, q⟩ := h
    refine ⟨_, pss_cons (ps_if (pt_cmpR op_gt (pe_ix ix_list (pv 0) pe_int (fun _ _ => rfl)) pe_int (nomark _))
        (pss_cons (ps_set (i := 2) scTake.nd rfl (.inl rfl) (pe_op op_mod (pe_ix ix_list (pv 0) pe_int (fun _ _ => rfl)) (pv 1)))
        (pss_cons (ps_asg (pe_op op_fdiv (pe_ix ix_list (pv 0) pe_int (fun _ _ => rfl)) (pv 1)) (pg_sub (pv 0) pe_int set_list))
        (pss_one (ps_ret (pv 2))))) pss_nil)
      (pss_cons (ps_set (i := 3) scTake.nd rfl (.inl rfl) (pe_op op_mod (pe_op op_mul (pe_ix ix_list (pv 0) pe_int (fun _ _ => rfl)) pe_int) pe_int))
      (pss_cons (ps_asg (pe_op op_add (pe_op op_mod (pe_op op_add (pe_op op_mul (pv 3) pe_int) pe_int) pe_int) pe_int) (pg_sub (pv 0) pe_int set_list))
      (pss_one (ps_ret (pe_op op_mod (pe_op op_fdiv (pe_op op_add (pe_op op_mul (pv 3) pe_int) (pe_ix ix_list (pv 0) pe_int (fun _ _ => rfl))) pe_int) (pv 1)))))), ?_⟩
    have i0 : atI [V.int a, V.int b] 0 = some (.int a) := atI_nat (j := 0) rfl
    have i1 : atI [V.int a, V.int b] 1 = some (.int b) := atI_nat (j := 1) rfl
    refine ⟨_, rfl, p, _, 0, _, rfl, rfl, SqL.of hF, i0, _, _, rfl, rfl, _, rfl, ite2 (fun c => ?_) (fun c => ?_)⟩
    · refine ⟨_, rfl, p, _, 0, _, rfl, rfl, SqL.of hF, i0, _, rfl, _, _, rfl, rfl, m0, ?_⟩
      refine ⟨_, rfl, p, _, 0, _, rfl, rfl, SqL.of hF, i0, _, rfl, _, _, rfl, rfl, ⟨m0, by omega⟩, _, rfl, p, _, _, 0, rfl, rfl, hF, rfl, ?_⟩
      exact ⟨_, rfl, q _ _ _ (Int.emod_nonneg _ (by omega)) (Int.emod_lt_of_pos _ m0) ⟨b0, b1⟩⟩
    · have o1 := Int.emod_nonneg (b * 69621) (show (2147483647 : Int) ≠ 0 by decide)
      have o2 := Int.emod_lt_of_pos (b * 69621) (show (0 : Int) < 2147483647 by decide)
      refine ⟨_, rfl, p, _, 1, _, rfl, rfl, SqL.of hF, i1, _, _, rfl, rfl, .inl ⟨by omega, by omega⟩, _, _, rfl, rfl, (by show (0 : Int) < 2147483647; decide), ?_⟩
      refine ⟨_, rfl, _, _, rfl, rfl, .inl ⟨by omega, by omega⟩, _, _, rfl, rfl, _, _, rfl, rfl, (by show (0 : Int) < 2147483646; decide), _, _, rfl, rfl, _, rfl, p, _, _, 1, rfl, rfl, hF, rfl, ?_⟩
      have e1 := Int.emod_nonneg (b * 69621 % 2147483647 * 48271 + 30103) (show (2147483646 : Int) ≠ 0 by decide)
      have e2 := Int.emod_lt_of_pos (b * 69621 % 2147483647 * 48271 + 30103) (show (0 : Int) < 2147483646 by decide)
      have j1 : atI [V.int a, V.int ((b * 69621 % 2147483647 * 48271 + 30103) % 2147483646 + 1)] 1 = some (.int ((b * 69621 % 2147483647 * 48271 + 30103) % 2147483646 + 1)) := atI_nat (j := 1) rfl
      refine ⟨_, rfl, _, _, rfl, rfl, .inl ⟨by omega, by omega⟩, _, rfl, p, _, 1, _, rfl, rfl, SqL.of upd_same, j1, _, _, rfl, rfl, _, _, rfl, rfl, ⟨by decide, by decide⟩, _, rfl, _, _, rfl, rfl, m0, ?_⟩
      exact q _ _ _ (Int.emod_nonneg _ (by omega)) (Int.emod_lt_of_pos _ m0) ⟨by omega, by omega⟩
/-! ### the feed -/
def spFeed (K : PySem.W.Frag) : Sp := fun vs H Q _ => ∃ (v : Addr) (ns : List Int) (k : Int), vs = [.ref v, .int k] ∧ LI K H v ns ∧ ns.length ≤ 63 ∧ 1 ≤ k ∧ k ≤ 100 ∧
  ∀ H' p a b, Same H H' → H p = none → FeedAt H' p a b → Q (.ref p) H'
theorem ok_feed {f : Addr} {fd : FuncData} {k : Nat} (F : Fun K "_law_feed" "_law_feed" sFeed f fd) (ml : mg "len" = none) : FnOk P w K mg base CX0 (k + 1) f fd ["_law_script", "_law_k"] (spFeed K) := by
  refine F.ok scFeed (fun vs H Q E h => ?_) (fun cdv A outer s H vs Q E hr h => ?_)
  · obtain ⟨v, ns, k, rfl, _⟩ := h
    rfl
  · obtain ⟨v, ns, k, rfl, hS, h63, k0, k1, q⟩ := h
    refine ⟨_, pss_cons (ps_set (i := 2) scFeed.nd rfl (.inl rfl) (pe_op op_add (pe_op op_mul pe_int (pv 1)) pe_int))
      (C8.pss_cut (ps_if (pt_cmpR op_lt (pv 1) (pe_callB call_len (by rfl) ml PySem.boot_len (pa_cons (pv 0) pa_nil)) (nomark _))
        (pss_one (ps_set (i := 2) scFeed.nd rfl (.inl rfl) (pe_ix ix_list (pv 0) (pv 1) (fun _ _ => rfl))))
        (pss_one (ps_if (pt_cmpR op_gt (pe_callB call_len (by rfl) ml PySem.boot_len (pa_cons (pv 0) pa_nil)) pe_int (nomark _))
          (pss_one (ps_set (i := 2) scFeed.nd rfl (.inl rfl) (pe_op op_add (pe_op op_mul (pe_op op_mod (pe_ix ix_list (pv 0) (pe_op op_mod (pv 1) (pe_callB call_len (by rfl) ml PySem.boot_len (pa_cons (pv 0) pa_nil))) (fun _ _ => rfl)) pe_int) pe_int) (pe_op op_mul pe_int (pv 1)))))
          pss_nil)))
      (pss_cons (ps_set (i := 3) scFeed.nd rfl (.inl rfl) pe_int)
      (C8.pss_cut (ps_if (pt_cmpR op_ge (pv 2) (pe_op op_pow pe_int pe_int) (nomark _)) (pss_one (ps_set (i := 3) scFeed.nd rfl (.inl rfl) (pv 2))) pss_nil)
      (pss_one (ps_ret (pe_lst (pa_cons (pv 3) (pa_cons (pe_op op_add (pe_op op_mod (pe_op op_add (pe_op op_mul (pe_op op_mod (pv 2) pe_int) pe_int) (pe_op op_mul pe_int (pv 1))) pe_int) pe_int) pa_nil)))))))), ?_⟩
    refine ⟨_, rfl, _, _, rfl, rfl, .inl ⟨by omega, by omega⟩, _, _, rfl, rfl, ?_⟩
    refine ⟨fun σ H' => ∃ c : Int, σ = [some (.ref v), some (.int k), some (.int c), none] ∧ H' = H, ?_, ?_⟩
    · refine ⟨_, rfl, _, rfl, .ref v, ns.length, rfl, .inl ⟨_, hS, (len_map ns).symm⟩, _, _, rfl, rfl, _, rfl, ite2 (fun c => ?_) (fun c => ?_)⟩
      · have c' : k < (ns.length : Int) := of_decide_eq_true c
        have hk : k.toNat < ns.length := by omega
        refine ⟨_, rfl, _, rfl, v, _, _, _, rfl, rfl, hS, at_of (j := k.toNat) (by omega) (at_map hk), ?_⟩
        exact ⟨_, rfl, rfl⟩
      · have c' : ¬ k < (ns.length : Int) := of_decide_eq_false (Bool.eq_false_iff.mpr c)
        refine ⟨_, rfl, .ref v, ns.length, rfl, .inl ⟨_, hS, (len_map ns).symm⟩, _, _, rfl, rfl, _, rfl, ite2 (fun c2 => ?_) (fun c2 => ?_)⟩
        · have c2' : 0 < (ns.length : Int) := of_decide_eq_true c2
          have m0 := Int.emod_nonneg k (show (ns.length : Int) ≠ 0 by omega)
          have m1 := Int.emod_lt_of_pos k c2'
          have hk : (k % (ns.length : Int)).toNat < ns.length := by omega
          have z0 := Int.emod_nonneg (ns[(k % (ns.length : Int)).toNat]) (show (2147483629 : Int) ≠ 0 by decide)
          have z1 := Int.emod_lt_of_pos (ns[(k % (ns.length : Int)).toNat]) (show (0 : Int) < 2147483629 by decide)
          refine ⟨_, rfl, _, rfl, _, rfl, .ref v, ns.length, rfl, .inl ⟨_, hS, (len_map ns).symm⟩, _, _, rfl, rfl, c2', v, _, _, _, rfl, rfl, hS, at_of (j := (k % (ns.length : Int)).toNat) (by show k % (ns.length : Int) = _; omega) (at_map hk),
            _, _, rfl, rfl, (by show (0 : Int) < 2147483629; decide), _, _, rfl, rfl, .inl ⟨by omega, by omega⟩, _, rfl, _, _, rfl, rfl, .inl ⟨by omega, by omega⟩, _, _, rfl, rfl, ?_⟩
          exact ⟨_, rfl, rfl⟩
        · exact ⟨_, rfl, rfl⟩
    · rintro σ H' ⟨c, rfl, rfl⟩
      refine ⟨fun σ H2 => ∃ o : Int, σ = [some (.ref v), some (.int k), some (.int c), some (.int o)] ∧ H2 = H', ?_, ?_⟩
      · refine ⟨_, rfl, _, _, rfl, rfl, ⟨by decide, by decide, by decide⟩, _, _, rfl, rfl, _, rfl, ite2 (fun _ => ?_) (fun _ => ?_)⟩
        · exact ⟨_, rfl, _, rfl, rfl⟩
        · exact ⟨_, rfl, rfl⟩
      · rintro σ H2 ⟨o, rfl, rfl⟩
        have z0 := Int.emod_nonneg c (show (2147483629 : Int) ≠ 0 by decide)
        have z1 := Int.emod_lt_of_pos c (show (0 : Int) < 2147483629 by decide)
        have e1 := Int.emod_nonneg (c % 2147483629 * 48271 + 40692 * k) (show (2147483646 : Int) ≠ 0 by decide)
        have e2 := Int.emod_lt_of_pos (c % 2147483629 * 48271 + 40692 * k) (show (0 : Int) < 2147483646 by decide)
        refine ⟨_, rfl, _, rfl, _, _, rfl, rfl, (by show (0 : Int) < 2147483629; decide), _, _, rfl, rfl, .inl ⟨by omega, by omega⟩, _, rfl, _, _, rfl, rfl, .inl ⟨by omega, by omega⟩, _, _, rfl, rfl, _, _, rfl, rfl, (by show (0 : Int) < 2147483646; decide), _, _, rfl, rfl,
          (by show 2 ≤ sizeLine; decide), fun p hp => ?_⟩
        exact q _ p _ _ (same_new hp) hp ⟨upd_same, by omega, by omega⟩
end
end Ask
namespace Ask
open PySem PySem.Spec PyProof.Rows L2
/-! ### primes -/
instance (p : Int) : Decidable (Pr p) := by unfold Pr; infer_instance
theorem isp_yes {n : Int} {i : Nat} (h3 : 3 ≤ n) (h23 : n ≤ 23) (hi : i ≤ 3) (ha : ∀ j : Nat, j < i → (2 + (j : Int)) * (2 + (j : Int)) ≤ n ∧ n % (2 + (j : Int)) ≠ 0) (hb : n < (2 + (i : Int)) * (2 + (i : Int))) : Pr n := by
  unfold Pr
  obtain rfl | rfl | rfl | rfl : i = 0 ∨ i = 1 ∨ i = 2 ∨ i = 3 := by omega
  · omega
  · have a0 := ha 0 (by omega)
    omega
  · have a0 := ha 0 (by omega)
    have a1 := ha 1 (by omega)
    omega
  · have a0 := ha 0 (by omega)
    have a1 := ha 1 (by omega)
    have a2 := ha 2 (by omega)
    omega
theorem isp_no {n : Int} {i : Nat} (h23 : n ≤ 23) (hi : i ≤ 3) (hb : (2 + (i : Int)) * (2 + (i : Int)) ≤ n) (hd : n % (2 + (i : Int)) = 0) : ¬ Pr n := by
  unfold Pr
  obtain rfl | rfl | rfl | rfl : i = 0 ∨ i = 1 ∨ i = 2 ∨ i = 3 := by omega
  all_goals omega
theorem isp_few {n : Int} {i : Nat} (h23 : n ≤ 23) (hi : i ≤ 3) (hb : (2 + (i : Int)) * (2 + (i : Int)) ≤ n) : i + 1 ≤ 3 := by
  obtain rfl | rfl | rfl | rfl : i = 0 ∨ i = 1 ∨ i = 2 ∨ i = 3 := by omega
  all_goals omega
section
variable {P : Program} {w : World} {K : PySem.W.Frag} {mg : Str → Option Value} {base : Heap}
def spIsP : Sp := fun vs H Q _ => ∃ n : Int, vs = [.int n] ∧ 3 ≤ n ∧ n ≤ 23 ∧ Q (.bl (decide (Pr n))) H
theorem ok_isp {f : Addr} {fd : FuncData} {k : Nat} (F : Fun K "_law_is_prime" "_law_is_prime" sIsP f fd) (mr : mg "range" = none) : FnOk P w K mg base CX0 (k + 1) f fd ["_law_number"] spIsP := by
  refine F.ok scIsP (fun vs H Q E h => ?_) (fun cdv A outer s H vs Q E hr h => ?_)
  · obtain ⟨n, rfl, _⟩ := h
    rfl
  · obtain ⟨n, rfl, h3, h23, q⟩ := h
    refine ⟨_, pss_cons (ps_if (pt_cmpR op_lt (pv 0) pe_int (nomark _)) (pss_one (ps_ret pe_bl)) pss_nil)
      (pss_cons (ps_for PassesOwn.never (by rfl) (pi_range2 (by rfl) mr (pa_cons pe_int (pa_cons pe_int pa_nil))) (pg_name (i := 1) scIsP.nd rfl (.inl rfl))
        (pss_cons (ps_if (pt_cmpR op_gt (pe_op op_mul (pv 1) (pv 1)) (pv 0) (nomark _)) (pss_one (ps_ret pe_bl)) pss_nil)
        (pss_one (ps_if (pt_cmpR op_eq (pe_op op_mod (pv 0) (pv 1)) pe_int (nomark _)) (pss_one (ps_ret pe_bl)) pss_nil))))
      (pss_one (ps_ret pe_bl))), ?_⟩
    refine ⟨_, rfl, _, _, rfl, rfl, _, rfl, ite2 (fun c => ?_) (fun _ => ?_)⟩
    · have c' : n < 2 := of_decide_eq_true c
      omega
    · refine ⟨_, _, rfl, ⟨by decide, by decide, by decide, by decide⟩, ?_⟩
      refine for_range (lo := 2) (fun i σ H' => ∃ y, σ = [some (.int n), y] ∧ i ≤ 3 ∧ (∀ j : Nat, j < i → (2 + (j : Int)) * (2 + (j : Int)) ≤ n ∧ n % (2 + (j : Int)) ≠ 0) ∧ H' = H)
        ⟨none, rfl, by omega, fun j hj => by omega, rfl⟩ ?_ ?_
      · rintro i σ H' _ ⟨y, rfl, hi, ha, rfl⟩
        refine ⟨_, rfl, _, rfl, _, _, rfl, rfl, .inl ⟨by omega, by omega⟩, _, rfl, _, _, rfl, rfl, _, rfl, ite2 (fun c => ?_) (fun c => ?_)⟩
        · have c' : n < (2 + (i : Int)) * (2 + (i : Int)) := of_decide_eq_true c
          have pr := isp_yes h3 h23 hi ha c'
          rw [decide_eq_true pr] at q
          exact q
        · have c' : ¬ n < (2 + (i : Int)) * (2 + (i : Int)) := of_decide_eq_false (Bool.eq_false_iff.mpr c)
          have c2 : (2 + (i : Int)) * (2 + (i : Int)) ≤ n := Int.not_lt.mp c'
          refine ⟨_, rfl, _, rfl, _, _, rfl, rfl, (by show (0 : Int) < 2 + (i : Int); omega), rfl, _, rfl, ite2 (fun d => ?_) (fun d => ?_)⟩
          · have d' : n % (2 + (i : Int)) = 0 := V.int.inj (of_decide_eq_true d)
            have np := isp_no h23 hi c2 d'
            rw [decide_eq_false np] at q
            exact q
          · have d' : n % (2 + (i : Int)) ≠ 0 := fun z => d (decide_eq_true (by rw [← z]))
            refine ⟨_, rfl, isp_few h23 hi c2, fun j hj => ?_, rfl⟩
            by_cases e : j = i
            · subst e
              exact ⟨c2, d'⟩
            · exact ha j (by omega)
      · rintro σ H' ⟨y, rfl, hi, _⟩
        exact absurd hi (by decide)
def spPrime : Sp := fun vs H Q _ => ∃ (p : Addr) (l a b : Int), vs = [.ref p, .int l] ∧ 1 ≤ l ∧ l ≤ 12 ∧ FeedAt H p a b ∧
  ∀ n a' b', Pr n → l ≤ n → FeedOk b' → Q (.int n) (upd H p (.lst [.int a', .int b']))
theorem ok_prime {f fT fP : Addr} {fd fdT fdP : FuncData} (F : Fun K "_law_prime" "_law_prime" sPrime f fd) (FT : Fun K "_law_take" "_law_take" sTake fT fdT) (bT : Binds K fdT ["_law_feed_here", "_law_many"] []) (gT : mg "_law_take" = some (.ref fT))
    (FP : Fun K "_law_is_prime" "_law_is_prime" sIsP fP fdP) (bP : Binds K fdP ["_law_number"] []) (gP : mg "_law_is_prime" = some (.ref fP)) (mr : mg "range" = none) (mm : mg "max" = none) : FnOk P w K mg base CX0 2 f fd ["_law_feed_here", "_law_least"] spPrime := by
  have GT : FnOk P w K mg base CX0 1 fT fdT ["_law_feed_here", "_law_many"] spTake := ok_take FT
  have GP : FnOk P w K mg base CX0 1 fP fdP ["_law_number"] spIsP := ok_isp FP mr
  refine F.ok scPrime (fun vs H Q E h => ?_) (fun cdv A outer s H vs Q E hr h => ?_)
  · obtain ⟨p, l, a, b, rfl, _⟩ := h
    rfl
  · obtain ⟨p, l, a, b, rfl, l1, l12, hF, q⟩ := h
    refine ⟨_, pss_cons (ps_set (i := 2) scPrime.nd rfl (.inl rfl) (pe_op op_add (pe_callB (call_max2 (by rfl)) (by rfl) mm boot_max (pa_cons pe_int (pa_cons (pv 1) pa_nil)))
        (pe_call GT hr (by rfl) gT FT.kp bT .nil pass0 (pa_cons (pv 0) (pa_cons pe_int pa_nil)))))
      (pss_cons (ps_while PassesOwn.never (pt_not (pt_val (pe_call GP hr (by rfl) gP FP.kp bP .nil pass0 (pa_cons (pv 2) pa_nil))))
        (pss_one (ps_set (i := 2) scPrime.nd rfl (.inl rfl) (pe_op op_add (pv 2) pe_int))))
      (pss_one (ps_ret (pv 2)))), ?_⟩
    refine ⟨_, rfl, _, _, rfl, _, rfl, p, 12, a, b, rfl, by decide, by decide, hF, fun d a' b' d0 d1 hb' => ?_⟩
    have hm : 3 ≤ (if l > 3 then l else 3) ∧ l ≤ (if l > 3 then l else 3) ∧ (if l > 3 then l else 3) ≤ 12 := by
      split <;> omega
    refine ⟨_, _, rfl, rfl, ?_⟩
    refine ⟨fun m σ H' => ∃ n : Int, σ = [some (.ref p), some (.int l), some (.int n)] ∧ 3 ≤ n ∧ l ≤ n ∧ n ≤ 23 ∧ n + (m : Int) = 23 ∧ H' = upd H p (.lst [.int a', .int b']),
      ⟨(23 - ((if l > 3 then l else 3) + d)).toNat, _, rfl, by omega, by omega, by omega, by omega, rfl⟩, ?_⟩
    rintro m σ H' ⟨n, rfl, n3, nl, n23, em, rfl⟩
    refine ⟨_, rfl, n, rfl, n3, n23, _, rfl, ite2 (fun c => ?_) (fun c => ?_)⟩
    · have np : ¬ Pr n := fun z => by
        rw [decide_eq_true z] at c
        exact absurd c (by decide)
      have n23' : n ≠ 23 := fun z => np (by unfold Pr; omega)
      refine ⟨fun σ' H2 => σ' = [some (.ref p), some (.int l), some (.int (n + 1))] ∧ H2 = upd H p (.lst [.int a', .int b']), ?_, ?_⟩
      · rintro σ' H2 ⟨rfl, rfl⟩
        exact ⟨m - 1, by omega, n + 1, rfl, by omega, by omega, by omega, by omega, rfl⟩
      · exact ⟨_, rfl, _, _, rfl, rfl, rfl, rfl⟩
    · have pr : Pr n := by
        refine Decidable.byContradiction fun z => c ?_
        rw [decide_eq_false z]
        rfl
      exact ⟨_, rfl, q _ _ _ pr nl hb'⟩
/-! ### products of differences -/
def spProd (K : PySem.W.Frag) : Sp := fun vs H Q _ => ∃ (l : Addr) (ls : List Int) (x c p : Int), vs = [.ref l, .int x, .int c, .int p] ∧ LI K H l ls ∧ Pr p ∧ 0 ≤ c ∧ c < p ∧ Q (.int (pd p x ls c)) H
theorem ok_prod {f : Addr} {fd : FuncData} {k : Nat} (F : Fun K "_law_product" "_law_product" sProd f fd) : FnOk P w K mg base CX0 (k + 1) f fd ["_law_roots", "_law_x", "_law_share", "_law_p"] (spProd K) := by
  refine F.ok scProd (fun vs H Q E h => ?_) (fun cdv A outer s H vs Q E hr h => ?_)
  · obtain ⟨l, ls, x, c, p, rfl, _⟩ := h
    rfl
  · obtain ⟨l, ls, x, c, p, rfl, hS, hp, c0, c1, q⟩ := h
    have hlo := hp.lo
    have hhi := hp.hi
    refine ⟨_, pss_cons (ps_set (i := 4) scProd.nd rfl (.inl rfl) (pv 2))
      (pss_cons (ps_for PassesOwn.never (by rfl) (pi_list (pv 0)) (pg_name (i := 5) scProd.nd rfl (.inl rfl))
        (pss_one (ps_set (i := 4) scProd.nd rfl (.inl rfl) (pe_op op_mod (pe_op op_mul (pv 4) (pe_op op_sub (pv 1) (pv 5))) (pv 3)))))
      (pss_one (ps_ret (pv 4)))), ?_⟩
    refine ⟨_, rfl, _, rfl, l, rfl, ⟨_, hS⟩, for_list (K := K) (a := l) (xs := ls.map V.int) (fun i σ H' => ∃ (g : Int) (y : Option V), σ = [some (.ref l), some (.int x), some (.int c), some (.int p), some (.int g), y] ∧ 0 ≤ g ∧ g < p ∧ pd p x (ls.drop i) g = pd p x ls c ∧ H' = H)
      ⟨c, none, rfl, c0, c1, rfl, rfl⟩ (fun i σ H' _ ⟨_, _, _, _, _, _, e⟩ => by rw [e]; exact hS) ?_ ?_⟩
    · rintro i z σ H' hz ⟨g, y, rfl, g0, g1, e, rfl⟩
      obtain ⟨hi, rfl⟩ := at_inv hz
      refine ⟨_, rfl, _, rfl, _, rfl, _, _, rfl, rfl, _, _, rfl, rfl, .inl ⟨by omega, by omega⟩, _, rfl, _, _, rfl, rfl, by omega, ?_⟩
      refine ⟨_, _, rfl, Int.emod_nonneg _ (by omega), Int.emod_lt_of_pos _ (by omega), ?_, rfl⟩
      rw [← e, List.drop_eq_getElem_cons hi]
      rfl
    · rintro σ H' ⟨g, y, rfl, _, _, e, rfl⟩
      rw [List.drop_of_length_le (by rw [len_map]; omega)] at e
      have e' : g = pd p x ls c := e
      refine ⟨_, rfl, ?_⟩
      rw [e']
      exact q
end
end Ask
namespace Ask
open PySem PySem.Spec PyProof.Rows L2
/-! ### all but the feed is as it was -/
structure Cur (H H' : Hp) (f : Addr) : Prop where
  kp : ∀ b u, b ≠ f → H b = some u → H' b = some u
  fd : ∃ a b, FeedAt H' f a b
section
variable {H H' H2 : Hp} {f D : Addr} {o : HO}
theorem Cur.refl {a b : Int} (h : FeedAt H f a b) : Cur H H f := ⟨fun _ _ _ e => e, a, b, h⟩
theorem Cur.draw {a b : Int} (c : Cur H H' f) (hb : FeedOk b) : Cur H (upd H' f (.lst [.int a, .int b])) f :=
  ⟨fun d u n e => by rw [upd_ne n]; exact c.kp d u n e, a, b, upd_same, hb⟩
theorem Cur.nf (c : Cur H H' f) (h : H' D = none) : D ≠ f := fun e => by
  obtain ⟨a, b, q, _⟩ := c.fd
  rw [← e, h] at q
  cases q
theorem Cur.free (c : Cur H H' f) (h : H' D = none) : H D = none := by
  cases q : H D with
  | none => rfl
  | some u =>
    rw [c.kp D u (c.nf h) q] at h
    cases h
theorem Cur.put (c : Cur H H' f) (hD : H D = none) (nf : D ≠ f) : Cur H (upd H' D o) f := by
  obtain ⟨a, b, q, r⟩ := c.fd
  refine ⟨fun d u n e => ?_, a, b, ?_, r⟩
  · rw [upd_ne (ne_of_none e hD)]
    exact c.kp d u n e
  · rw [upd_ne nf.symm]
    exact q
theorem Cur.laid (c : Cur H H' f) (h : H' D = none) : Cur H (upd H' D o) f := c.put (c.free h) (c.nf h)
theorem Cur.same (c : Cur H H' f) (s : Same H' H2) : Cur H H2 f := by
  obtain ⟨a, b, q, r⟩ := c.fd
  exact ⟨fun d u n e => s _ _ (c.kp d u n e), a, b, s _ _ q, r⟩
end
/-! ### lists -/
theorem cut_to (ns : List Int) {k : Nat} (h : k < ns.length) : cutV (ns.map V.int) none (some (k : Int)) = (ns.take k).map V.int := by
  unfold cutV
  rw [HT.sIx_none, HT.sIx_nat, List.drop_zero, len_map, Nat.min_eq_left (by omega), List.map_take, Nat.sub_zero]
theorem cut_from (ns : List Int) {k : Nat} (h : k < ns.length) : cutV (ns.map V.int) (some ((k + 1 : Nat) : Int)) none = (ns.drop (k + 1)).map V.int := by
  unfold cutV
  rw [HT.sIx_none, HT.sIx_nat, len_map, Nat.min_eq_left (by omega), List.map_drop]
  exact List.take_of_length_le (by rw [List.length_drop, len_map]; omega)
theorem set_cut (ns : List Int) {k : Nat} (h : k < ns.length) (z : Int) : ns.set k z = ns.take k ++ [z] ++ ns.drop (k + 1) := by
  rw [List.set_eq_take_append_cons_drop, if_pos h]
  simp
theorem upto_succ (n : Nat) : upto (n + 1) = upto n ++ [(n : Int)] := by
  unfold upto
  rw [List.range_succ, List.map_append]
  rfl
theorem upto_len (n : Nat) : (upto n).length = n := by simp [upto]
theorem add_ne {p x m : Int} (x0 : 0 ≤ x) (x1 : x < p) (m0 : 0 < m) (m1 : m < p) : (x + m) % p ≠ x := by
  intro e
  by_cases h : x + m < p
  · rw [Int.emod_eq_of_lt (by omega) h] at e
    omega
  · have e2 : (x + m) % p = x + m - p := by
      rw [← Int.sub_emod_right, Int.emod_eq_of_lt (by omega) (by omega)]
    omega
/-! ### the other row -/
abbrev NO : List Str := ["_law_feed_here", "_law_row", "_law_p", "_law_form", "_law_at", "_law_more", "_law_other_here", "_law_left", "_law_roots", "_law_j", "_law_value"]
def ifB : Stmt → List Stmt
  | .If _ b _ _ => b
  | _ => []
def ob (i : Nat) : Stmt := (defBody sOther).getD i (.Pass ⟨0, 0, 0, 0⟩)
structure Pre (H0 H1 : Hp) (f r : Addr) (xs : List Int) (p : Int) (k : Nat) (more : Int) : Prop where
  cur : Cur H0 H1 f
  row : H0 r = some (.lst (xs.map V.int))
  rf : r ≠ f
  pr : Pr p
  n12 : xs.length ≤ 12
  np : (xs.length : Int) ≤ p
  rng : ∀ z ∈ xs, 0 ≤ z ∧ z < p
  hk : k < xs.length
  m0 : 0 < more
  m1 : more < p
def Post (H0 : Hp) (f : Addr) (xs : List Int) (p : Int) (Q : VK) : Prop := ∀ (H' : Hp) (T o : Addr) (ys : List Int) (mv : V), Cur H0 H' f → H' T = some (.tup [.ref o, mv]) → o ≠ f → H' o = some (.lst (ys.map V.int)) → ys.length = xs.length → (agree xs ys p p.toNat).length < xs.length →
  (mv = .non ∨ ∃ m, mv = .ref m ∧ m ≠ f ∧ H' m = some (.lst ((agree xs ys p p.toNat).map V.int))) → Q (.ref T) H'
abbrev so (f r : Addr) (p : Int) (fm : Option V) (k : Nat) (more : Int) : L2.St := [some (.ref f), some (.ref r), some (.int p), fm, some (.int (k : Int)), some (.int more), none, none, none, none, none]
theorem Pre.seq {H0 H1 H2 : Hp} {f r : Addr} {xs : List Int} {p : Int} {k : Nat} {more : Int} (K : PySem.W.Frag) (h : Pre H0 H1 f r xs p k more) (c : Cur H0 H2 f) : LI K H2 r xs := SqL.of (c.kp _ _ h.rf h.row)
theorem Pre.at {H0 H1 : Hp} {f r : Addr} {xs : List Int} {p : Int} {k : Nat} {more : Int} (h : Pre H0 H1 f r xs p k more) : 0 ≤ xs[k]'h.hk ∧ xs[k]'h.hk < p := h.rng _ (List.getElem_mem h.hk)
theorem mod_in {p : Int} (hp : Pr p) (z : Int) : 0 ≤ z % p ∧ z % p < p := by
  have := hp.lo
  exact ⟨Int.emod_nonneg _ (by omega), Int.emod_lt_of_pos _ (by omega)⟩
section
variable {P : Program} {w : World} {K : PySem.W.Frag} {mg : Str → Option Value} {base : Heap} {fA : Addr} {cdv : Value} {A : Around} {outer : List Env} {s : Shared} {H : Hp} {E : XK}
abbrev XO (P : Program) (w : World) (K : PySem.W.Frag) (mg : Str → Option Value) (base : Heap) (fA : Addr) (cdv : Value) (A : Around) (outer : List Env) (s : Shared) (H : Hp) (E : XK) : Cx := (cxOf CX0 P w K mg base NO "_law_other" (defScope sOther) fA cdv A outer s H E).nox
/-- the first form: the row but at one place -/
theorem br0 (ml : mg "len" = none) (mr : mg "range" = none) : ∃ t : TS, PSs (XO P w K mg base fA cdv A outer s H E) (ifB (ob 3)) t ∧
    ∀ (D : Ends) (fm : Option V) (H0 H1 : Hp) (f r : Addr) (xs : List Int) (p : Int) (k : Nat) (more : Int), Pre H0 H1 f r xs p k more → Post H0 f xs p D.rt → t D (so f r p fm k more) H1 := by
  refine ⟨_, pss_cons (ps_set (i := 6) scOther.nd rfl (.inl rfl) (pe_op op_cat (pe_op op_cat (pe_slice sl_list (pv 1) po_none (po_some (pv 4)))
        (pe_lst (pa_cons (pe_op op_mod (pe_op op_add (pe_ix ix_list (pv 1) (pv 4) (fun _ _ => rfl)) (pv 5)) (pv 2)) pa_nil))) (pe_slice sl_list (pv 1) (po_some (pe_op op_add (pv 4) pe_int)) po_none)))
      (pss_one (ps_ret (pe_tup (pa_cons (pv 6) (pa_cons
        (pe_lc (own := [("_law_j", 9)]) (g := gName 9) (by rfl) scOther.nd (pi_range1 (by rfl) mr (pa_cons (pe_callB call_len (by rfl) ml PySem.boot_len (pa_cons (pv 1) pa_nil)) pa_nil)) (blkOk_by (N := NO) (sc := defScope sOther) (by decide +kernel))
          (fun _ _ _ _ _ => pg_name (i := 9) scOther.nd rfl (Or.inl rfl)) (fun _ _ _ _ _ => pts_one (pt_cmpR op_ne (pv 9) (pv 4) (nomark _))) (fun _ _ _ _ _ => pv 9)) pa_nil))))), ?_⟩
  intro D fm H0 H1 f r xs p k more h q
  have hlo := h.pr.lo
  have hk := h.hk
  have hat := h.at
  have n12 := h.n12
  -- the slices and their sum
  refine ⟨_, rfl, _, rfl, _, rfl, r, _, rfl, h.seq K h.cur, fun p1 np1 => ?_⟩
  have c1 := h.cur.laid (o := .lst (cutV (xs.map V.int) none (some (k : Int)))) np1
  refine ⟨_, rfl, _, rfl, r, _, _, _, rfl, rfl, h.seq K c1, atI_nat (at_map hk), _, rfl, _, _, rfl, rfl, _, rfl, _, _, rfl, rfl, (show (0 : Int) < p by omega), (by show 1 ≤ sizeLine; decide), fun p2 np2 => ?_⟩
  have c2 := c1.laid (o := .lst [.int ((xs[k] + more) % p)]) np2
  have n12' : p1 ≠ p2 := ne_of_none upd_same np2
  refine ⟨p1, p2, _, _, rfl, rfl, (upd_ne n12').trans upd_same, upd_same, ?_, fun p3 np3 => ?_⟩
  · rw [cut_to xs hk, len_map, List.length_take]
    exact line_of (by simp; omega)
  have c3 := c2.laid (o := .lst (cutV (xs.map V.int) none (some (k : Int)) ++ [.int ((xs[k] + more) % p)])) np3
  refine ⟨_, rfl, _, rfl, _, _, rfl, rfl, _, rfl, r, _, rfl, h.seq K c3, fun p4 np4 => ?_⟩
  have c4 := c3.laid (o := .lst (cutV (xs.map V.int) (some ((k : Int) + 1)) none)) np4
  have n34 : p3 ≠ p4 := ne_of_none upd_same np4
  have ef : cutV (xs.map V.int) (some ((k : Int) + 1)) none = (xs.drop (k + 1)).map V.int := cut_from xs hk
  refine ⟨p3, p4, _, _, rfl, rfl, (upd_ne n34).trans upd_same, upd_same, ?_, fun p5 np5 => ?_⟩
  · rw [cut_to xs hk, ef, List.length_append, len_map, len_map, List.length_take, List.length_drop]
    exact line_of (by simp; omega)
  have c5 := c4.laid (o := .lst (cutV (xs.map V.int) none (some (k : Int)) ++ [.int ((xs[k] + more) % p)] ++ cutV (xs.map V.int) (some ((k : Int) + 1)) none)) np5
  have e5 : (cutV (xs.map V.int) none (some (k : Int)) ++ [.int ((xs[k] + more) % p)] ++ cutV (xs.map V.int) (some ((k : Int) + 1)) none) = (xs.set k ((xs[k] + more) % p)).map V.int := by
    rw [cut_to xs hk, ef, set_cut xs hk, List.map_append, List.map_append]
    rfl
  rw [e5] at c5
  -- the row that is made
  generalize hys : xs.set k ((xs[k] + more) % p) = ys at c5 e5
  have yl : ys.length = xs.length := by rw [← hys, List.length_set]
  have yk : ∀ (j : Nat) (hj : j < xs.length), j ≠ k → xs[j] = ys[j]'(by omega) := by
    intro j hj ne
    subst hys
    rw [List.getElem_set_ne (by omega)]
  have yn : xs ≠ ys := by
    intro e
    have q1 : xs[k] = ys[k]'(by omega) := by
      have q2 : xs[k]? = ys[k]? := by rw [← e]
      rw [List.getElem?_eq_getElem hk, List.getElem?_eq_getElem (by omega)] at q2
      exact Option.some.inj q2
    have q3 : ys[k]'(by omega) = (xs[k] + more) % p := by
      subst hys
      rw [List.getElem_set_self]
    exact add_ne hat.1 hat.2 h.m0 h.m1 (q3.symm.trans q1.symm)
  have yr : ∀ z ∈ ys, 0 ≤ z ∧ z < p := by
    intro z hz
    rw [← hys] at hz
    rcases List.mem_or_eq_of_mem_set hz with q1 | q1
    · exact h.rng z q1
    · rw [q1]
      exact mod_in h.pr _
  have ag := agree_but h.pr yl h.np h.rng yr yn hk yk (n := p.toNat) (by omega)
  have fw := agree_few h.pr yl h.np h.rng yr yn (n := p.toNat) (by omega)
  -- the places where they meet
  have e6 : ∀ X, X = upd (upd (upd (upd (upd H1 p1 (.lst (cutV (xs.map V.int) none (some (k : Int))))) p2 (.lst [.int ((xs[k] + more) % p)])) p3 (.lst (cutV (xs.map V.int) none (some (k : Int)) ++ [.int ((xs[k] + more) % p)]))) p4 (.lst (cutV (xs.map V.int) (some ((k : Int) + 1)) none))) p5 (.lst (cutV (xs.map V.int) none (some (k : Int)) ++ [.int ((xs[k] + more) % p)] ++ cutV (xs.map V.int) (some ((k : Int) + 1)) none)) → Cur H0 X f ∧ X p5 = some (.lst (ys.map V.int)) := by
    rintro X rfl
    rw [e5]
    exact ⟨c5, upd_same⟩
  obtain ⟨c6, e7⟩ := e6 _ rfl
  refine ⟨_, rfl, _, rfl, .ref r, xs.length, rfl, .inl ⟨_, h.seq K c6, (len_map xs).symm⟩, _, rfl, by omega, by omega, fun M nM => ?_⟩
  have nM5 : p5 ≠ M := ne_of_none e7 nM
  have fM := c6.free nM
  have gM := c6.nf nM
  refine lc_range (n := xs.length) (fun i H' => Cur H0 H' f ∧ H' p5 = some (.lst (ys.map V.int)) ∧ H' M = some (.lst (((upto i).filter fun j => decide (j ≠ (k : Int))).map V.int)))
    ⟨c6.laid nM, by rw [upd_ne nM5]; exact e7, upd_same⟩ (fun i H' hi hP => ?_) (fun H' hP => ?_)
  · refine ⟨rfl, _, rfl, _, rfl, rfl, _, rfl, ?_⟩
    have us : (upto (i + 1)).filter (fun j => decide (j ≠ (k : Int))) = (upto i).filter (fun j => decide (j ≠ (k : Int))) ++ (if (i : Int) ≠ (k : Int) then [(i : Int)] else []) := by
      rw [upto_succ, List.filter_append]
      congr 1
      by_cases e : (i : Int) = (k : Int) <;> simp [e]
    have ei : (0 : Int) + (i : Int) = (i : Int) := by omega
    show if (!decide (V.int (0 + (i : Int)) = V.int (k : Int))) = true then _ else _
    rw [ei]
    by_cases e : (i : Int) = (k : Int)
    · rw [if_neg (by rw [e]; simp)]
      refine ⟨hP.1, hP.2.1, ?_⟩
      rw [us, if_neg (fun z => z e), List.append_nil]
      exact hP.2.2
    · rw [if_pos (by simp [e])]
      refine ⟨_, rfl, _, hP.2.2, ?_, hP.1.put fM gM, ?_, ?_⟩
      · rw [len_map]
        refine Nat.lt_of_le_of_lt (List.length_filter_le _ _) ?_
        rw [upto_len]
        exact small1000 (by omega)
      · rw [upd_ne nM5]
        exact hP.2.1
      · rw [upd_same, us, if_pos e, List.map_append]
        rfl
  · obtain ⟨c7, e8, e9⟩ := hP
    refine ⟨(by show 2 ≤ sizeLine; decide), fun T nT => ?_⟩
    refine q _ T p5 ys (.ref M) (c7.laid nT) upd_same (c4.nf np5) ?_ yl fw (.inr ⟨M, rfl, gM, ?_⟩)
    · rw [upd_ne (ne_of_none e8 nT)]
      exact e8
    · rw [upd_ne (ne_of_none e9 nT), e9, ag]
end
end Ask
namespace Ask
open PySem PySem.Spec PyProof.Rows L2
theorem ixN_nat {n k : Nat} (h : k < n) : ixN n (k : Int) = some k := by
  unfold ixN
  rw [if_pos (by omega), if_pos (by omega), Int.toNat_natCast]
theorem dp_ints {K : PySem.W.Frag} {H : Hp} : ∀ ns : List Int, DpAll K H (ns.map V.int) (ns.map PyData.int)
  | [] => .nil
  | n :: r => .cons (.int n) (dp_ints r)
theorem eqv_ints : ∀ ns ms : List Int, PyData.eqv (.list (ns.map PyData.int)) (.list (ms.map PyData.int)) = decide (ns = ms) := by
  have q : ∀ ns ms : List Int, PyData.eqvAll (ns.map PyData.int) (ms.map PyData.int) = decide (ns = ms) := by
    intro ns
    induction ns with
    | nil =>
      intro ms
      cases ms with
      | nil => simp [PyData.eqvAll]
      | cons m ms => simp [PyData.eqvAll]
    | cons n ns ih =>
      intro ms
      cases ms with
      | nil => simp [PyData.eqvAll]
      | cons m ms =>
        simp only [List.map_cons, PyData.eqvAll, PyData.eqv, ih]
        by_cases a : n = m <;> by_cases b : ns = ms <;> simp [a, b]
  intro ns ms
  simp only [PyData.eqv, q]
theorem shaped_ints (ns : List Int) : SeqAt.shaped (.list (ns.map PyData.int)) = true := by
  have a : PyData.canLayAll0 (ns.map PyData.int) = true := by
    induction ns with
    | nil => simp [PyData.canLayAll0]
    | cons n ns ih => simp [PyData.canLayAll0, PyData.canLay0, ih]
  have b : PyData.depthAll (ns.map PyData.int) = 0 := by
    induction ns with
    | nil => simp [PyData.depthAll]
    | cons n ns ih =>
      have a' : PyData.canLayAll0 (ns.map PyData.int) = true := by
        rw [List.map_cons] at a
        simp only [PyData.canLayAll0, Bool.and_eq_true] at a
        exact a.2
      simp [PyData.depthAll, PyData.depth, ih a']
  unfold SeqAt.shaped
  simp [PyData.canLay0, PyData.depth, a, b]
theorem get_app {zs : List Int} {z : Int} {j : Nat} (h : j < (zs ++ [z]).length) : (∃ l : j < zs.length, (zs ++ [z])[j] = zs[j]) ∨ (j = zs.length ∧ (zs ++ [z])[j] = z) := by
  by_cases l : j < zs.length
  · exact .inl ⟨l, List.getElem_append_left l⟩
  · rw [List.length_append, List.length_singleton] at h
    have e : j = zs.length := by omega
    subst e
    exact .inr ⟨rfl, by simp⟩
section
variable {P : Program} {w : World} {K : PySem.W.Frag} {mg : Str → Option Value} {base : Heap} {fA : Addr} {cdv : Value} {A : Around} {outer : List Env} {s : Shared} {H : Hp} {E : XK}
/-- the second form: at all places but one another value -/
theorem br1 {fT : Addr} {fdT : FuncData} (ml : mg "len" = none) (mi : mg "int" = none) (hr : Room 1 (A.deeper (envOfC "_law_other" (defScope sOther) s.heap.objs.size fA cdv)))
    (GT : FnOk P w K mg base CX0 1 fT fdT ["_law_feed_here", "_law_many"] spTake) (kT : PySem.W.keepIn K (.ref fT) = true) (bT : Binds K fdT ["_law_feed_here", "_law_many"] []) (gT : mg "_law_take" = some (.ref fT)) :
    ∃ t : TS, PSs (XO P w K mg base fA cdv A outer s H E) (ifB (ob 4)) t ∧
    ∀ (D : Ends) (fm : Option V) (H0 H1 : Hp) (f r : Addr) (xs : List Int) (p : Int) (k : Nat) (more : Int), Pre H0 H1 f r xs p k more → Post H0 f xs p D.rt → t D (so f r p fm k more) H1 := by
  refine ⟨_, pss_cons (ps_setLc (i := 6) (own := [("_law_value", 10)]) (g := gName 10) (tt := tYes) (by rfl) scOther.nd rfl rfl (sw_true rfl rfl rfl (by decide +kernel)) (pi_list (pv 1)) (blkOk_by (N := NO) (sc := defScope sOther) (by decide +kernel))
        (fun _ _ _ _ _ => pg_name (i := 10) scOther.nd rfl (Or.inl rfl)) (fun _ _ _ _ _ => pts_nil)
        (fun _ _ _ _ _ => pe_op op_mod (pe_op op_add (pe_op op_add (pv 10) pe_int) (pe_call GT hr (by rfl) gT kT bT .nil pass0 (pa_cons (pv 0) (pa_cons (pe_op op_sub (pv 2) pe_int) pa_nil)))) (pv 2)))
      (pss_cons (ps_asg (pe_op op_mod (pe_op op_add (pe_ix ix_list (pv 1) (pv 4) (fun _ _ => rfl))
          (pe_ix ix_list (pe_lst (pa_cons pe_int (pa_cons (pv 5) pa_nil))) (pe_callTy call_int1 (by rfl) mi (by decide +kernel) (pa_cons (pe_cmpR op_eq (pe_callB call_len (by rfl) ml PySem.boot_len (pa_cons (pv 1) pa_nil)) pe_int (nomark _)) pa_nil)) (fun _ _ => rfl))) (pv 2))
        (pg_sub (pv 6) (pv 4) set_list))
      (pss_one (ps_ret (pe_tup (pa_cons (pv 6) (pa_cons pe_non pa_nil)))))), ?_⟩
  intro D fm H0 H1 f r xs p k more h q
  have hlo := h.pr.lo
  have hhi := h.pr.hi
  have hk := h.hk
  have hat := h.at
  have n12 := h.n12
  refine ⟨_, rfl, r, rfl, ⟨_, h.seq K h.cur⟩, fun M nM => ?_⟩
  have fM := h.cur.free nM
  have gM := h.cur.nf nM
  refine lc_list (K := K) (a := r) (xs := xs.map V.int) (fun i H' => Cur H0 H' f ∧ ∃ zs : List Int, zs.length = i ∧ H' M = some (.lst (zs.map V.int)) ∧ ∀ (j : Nat) (a : j < zs.length) (b : j < xs.length), (0 ≤ zs[j] ∧ zs[j] < p) ∧ zs[j] ≠ xs[j])
    ⟨h.cur.laid nM, [], rfl, upd_same, fun j a => absurd a (Nat.not_lt_zero _)⟩ (fun i H' _ hP => h.seq K hP.1) (fun i x H' hx hP => ?_) (fun H' hP => ?_)
  · obtain ⟨hi, rfl⟩ := at_inv hx
    obtain ⟨c, zs, zl, zM, zz⟩ := hP
    obtain ⟨a, b, hF⟩ := c.fd
    have hxi := h.rng _ (List.getElem_mem hi)
    refine ⟨rfl, _, rfl, _, _, rfl, rfl, _, rfl, _, rfl, _, _, rfl, rfl, f, p - 1, a, b, rfl, by omega, by omega, hF, fun d a' b' d0 d1 hb' => ?_⟩
    refine ⟨_, _, rfl, rfl, _, rfl, _, _, rfl, rfl, (show (0 : Int) < p by omega), ?_⟩
    refine ⟨_, (upd_ne gM).trans zM, ?_, (c.draw hb').put fM gM, zs ++ [(xs[i] + 1 + d) % p], ?_, ?_, fun j ja jb => ?_⟩
    · rw [len_map]
      exact small1000 (by omega)
    · rw [List.length_append, List.length_singleton, zl]
    · rw [upd_same, List.map_append]
      rfl
    · have z1 : (xs[i] + 1 + d) % p ≠ xs[i] := by
        rw [Int.add_assoc]
        exact add_ne hxi.1 hxi.2 (by omega) (by omega)
      rcases get_app ja with ⟨l, e⟩ | ⟨l, e⟩
      · rw [e]
        exact zz j l jb
      · rw [e]
        refine ⟨mod_in h.pr _, ?_⟩
        have ji : j = i := by omega
        subst ji
        exact z1
  · obtain ⟨c, zs, zl, zM, zz⟩ := hP
    rw [len_map] at zl
    have nMr : ∀ o, Cur H0 (upd H' M o) f := fun o => c.put fM gM
    refine ⟨_, rfl, _, rfl, r, _, _, _, rfl, rfl, h.seq K c, atI_nat (at_map hk), _, rfl, (by show 2 ≤ sizeLine; decide), fun L nL => ?_⟩
    have c2 := c.laid (o := .lst [.int 0, .int more]) nL
    have ea : atI [V.int 0, V.int more] (if decide (V.int (xs.length : Int) = V.int 1) = true then 1 else 0) = some (.int (if xs.length = 1 then more else 0)) := by
      by_cases e : xs.length = 1
      · rw [if_pos e, e]
        exact atI_nat (j := 1) rfl
      · rw [if_neg e, if_neg]
        · exact atI_nat (j := 0) rfl
        · intro z
          have z' := V.int.inj (of_decide_eq_true z)
          omega
    refine ⟨_, rfl, .ref r, xs.length, rfl, .inl ⟨_, h.seq K c2, (len_map xs).symm⟩, rfl, .inr ⟨_, rfl, ?_⟩⟩
    refine ⟨L, _, _, _, rfl, rfl, SqL.of upd_same, ea, _, _, rfl, rfl, _, rfl, _, _, rfl, rfl, (show (0 : Int) < p by omega), ?_⟩
    have nLM : M ≠ L := ne_of_none zM nL
    have fL := c.free nL
    refine ⟨_, rfl, _, rfl, M, _, _, k, rfl, rfl, (upd_ne nLM).trans zM, ixN_nat (by rw [len_map]; omega), ?_⟩
    refine ⟨_, rfl, (by show 2 ≤ sizeLine; decide), fun T nT => ?_⟩
    have eM : (zs.map V.int).set k (V.int ((xs[k] + (if xs.length = 1 then more else 0)) % p)) = (zs.set k ((xs[k] + (if xs.length = 1 then more else 0)) % p)).map V.int := by
      rw [List.map_set]
    have nTM : M ≠ T := ne_of_none upd_same nT
    have c3 := (c2.put (o := .lst ((zs.map V.int).set k (V.int ((xs[k] + (if xs.length = 1 then more else 0)) % p)))) fM gM).laid (o := .tup [.ref M, .non]) nT
    have yl : (zs.set k ((xs[k] + (if xs.length = 1 then more else 0)) % p)).length = xs.length := by rw [List.length_set, zl]
    have yr : ∀ z ∈ zs.set k ((xs[k] + (if xs.length = 1 then more else 0)) % p), 0 ≤ z ∧ z < p := by
      intro z hz
      rcases List.mem_or_eq_of_mem_set hz with q1 | q1
      · obtain ⟨j, hj, rfl⟩ := List.getElem_of_mem q1
        exact (zz j hj (by omega)).1
      · rw [q1]
        exact mod_in h.pr _
    have yn : xs ≠ zs.set k ((xs[k] + (if xs.length = 1 then more else 0)) % p) := by
      intro e
      have at_ : ∀ (j : Nat) (hj : j < xs.length), xs[j] = (zs.set k ((xs[k] + (if xs.length = 1 then more else 0)) % p))[j]'(by omega) := by
        intro j hj
        have q2 : xs[j]? = (zs.set k ((xs[k] + (if xs.length = 1 then more else 0)) % p))[j]? := by rw [← e]
        rw [List.getElem?_eq_getElem hj, List.getElem?_eq_getElem (by omega)] at q2
        exact Option.some.inj q2
      by_cases e1 : xs.length = 1
      · have q1 := at_ k hk
        rw [List.getElem_set_self, if_pos e1] at q1
        exact add_ne hat.1 hat.2 h.m0 h.m1 q1.symm
      · obtain ⟨j, hj, ne⟩ : ∃ j, j < xs.length ∧ k ≠ j := by
          by_cases k0 : k = 0
          · exact ⟨1, by omega, by omega⟩
          · exact ⟨0, by omega, by omega⟩
        have q1 := at_ j hj
        rw [List.getElem_set_ne ne] at q1
        exact (zz j (by omega) hj).2 q1.symm
    refine q _ T M _ .non c3 upd_same gM ((upd_ne nTM).trans (upd_same.trans (by rw [eM]))) yl (agree_few h.pr yl h.np h.rng yr yn (by omega)) (.inl rfl)
/-- else: any row -/
theorem br3 {fT : Addr} {fdT : FuncData} (hr : Room 1 (A.deeper (envOfC "_law_other" (defScope sOther) s.heap.objs.size fA cdv)))
    (GT : FnOk P w K mg base CX0 1 fT fdT ["_law_feed_here", "_law_many"] spTake) (kT : PySem.W.keepIn K (.ref fT) = true) (bT : Binds K fdT ["_law_feed_here", "_law_many"] []) (gT : mg "_law_take" = some (.ref fT)) :
    ∃ t : TS, PSs (XO P w K mg base fA cdv A outer s H E) ((defBody sOther).drop 6) t ∧
    ∀ (D : Ends) (fm : Option V) (H0 H1 : Hp) (f r : Addr) (xs : List Int) (p : Int) (k : Nat) (more : Int), Pre H0 H1 f r xs p k more → Post H0 f xs p D.rt → t D (so f r p fm k more) H1 := by
  refine ⟨_, pss_cons (ps_setLc (i := 6) (own := [("_law_value", 10)]) (g := gName 10) (tt := tYes) (by rfl) scOther.nd rfl rfl (sw_true rfl rfl rfl (by decide +kernel)) (pi_list (pv 1)) (blkOk_by (N := NO) (sc := defScope sOther) (by decide +kernel))
        (fun _ _ _ _ _ => pg_name (i := 10) scOther.nd rfl (Or.inl rfl)) (fun _ _ _ _ _ => pts_nil)
        (fun _ _ _ _ _ => pe_call GT hr (by rfl) gT kT bT .nil pass0 (pa_cons (pv 0) (pa_cons (pv 2) pa_nil))))
      (C8.pss_cut (ps_if (pt_cmpR (op_eqD hr.units) (pv 6) (pv 1) (nomark _))
        (pss_one (ps_asg (pe_op op_mod (pe_op op_add (pe_ix ix_list (pv 1) (pv 4) (fun _ _ => rfl)) (pv 5)) (pv 2)) (pg_sub (pv 6) (pv 4) set_list))) pss_nil)
      (pss_one (ps_ret (pe_tup (pa_cons (pv 6) (pa_cons pe_non pa_nil)))))), ?_⟩
  intro D fm H0 H1 f r xs p k more h q
  have hlo := h.pr.lo
  have hhi := h.pr.hi
  have hk := h.hk
  have hat := h.at
  have n12 := h.n12
  refine ⟨_, rfl, r, rfl, ⟨_, h.seq K h.cur⟩, fun M nM => ?_⟩
  have fM := h.cur.free nM
  have gM := h.cur.nf nM
  refine lc_list (K := K) (a := r) (xs := xs.map V.int) (fun i H' => Cur H0 H' f ∧ ∃ zs : List Int, zs.length = i ∧ H' M = some (.lst (zs.map V.int)) ∧ ∀ z ∈ zs, 0 ≤ z ∧ z < p)
    ⟨h.cur.laid nM, [], rfl, upd_same, fun z hz => by cases hz⟩ (fun i H' _ hP => h.seq K hP.1) (fun i x H' hx hP => ?_) (fun H' hP => ?_)
  · obtain ⟨hi, rfl⟩ := at_inv hx
    obtain ⟨c, zs, zl, zM, zz⟩ := hP
    obtain ⟨a, b, hF⟩ := c.fd
    refine ⟨rfl, _, rfl, _, rfl, f, p, a, b, rfl, by omega, by omega, hF, fun d a' b' d0 d1 hb' => ?_⟩
    refine ⟨_, (upd_ne gM).trans zM, ?_, (c.draw hb').put fM gM, zs ++ [d], ?_, ?_, fun z hz => ?_⟩
    · rw [len_map]
      exact small1000 (by omega)
    · rw [List.length_append, List.length_singleton, zl]
    · rw [upd_same, List.map_append]
      rfl
    · rcases List.mem_append.mp hz with q1 | q1
      · exact zz z q1
      · rw [List.mem_singleton.mp q1]
        exact ⟨d0, d1⟩
  · obtain ⟨c, zs, zl, zM, zz⟩ := hP
    rw [len_map] at zl
    refine ⟨fun σ H2 => σ = [some (.ref f), some (.ref r), some (.int p), fm, some (.int (k : Int)), some (.int more), some (.ref M), none, none, none, none] ∧ Cur H0 H2 f ∧ ∃ ys : List Int, ys.length = xs.length ∧ H2 M = some (.lst (ys.map V.int)) ∧ (∀ z ∈ ys, 0 ≤ z ∧ z < p) ∧ xs ≠ ys, ?_, ?_⟩
    · refine ⟨_, rfl, _, rfl, _, _, .lst (SqL.of zM) (dp_ints zs), .lst (h.seq K c) (dp_ints xs), shaped_ints zs, shaped_ints xs, _, rfl, ?_⟩
      rw [eqv_ints]
      refine ite2 (fun e => ?_) (fun e => ?_)
      · have e' : zs = xs := of_decide_eq_true e
        subst e'
        refine ⟨_, rfl, _, rfl, r, _, _, _, rfl, rfl, h.seq K c, atI_nat (at_map hk), _, rfl, _, _, rfl, rfl, _, rfl, _, _, rfl, rfl, (show (0 : Int) < p by omega), ?_⟩
        refine ⟨_, rfl, _, rfl, M, _, _, k, rfl, rfl, zM, ixN_nat (by rw [len_map]; omega), ?_⟩
        refine ⟨rfl, c.put fM gM, zs.set k ((zs[k] + more) % p), by rw [List.length_set], ?_, fun z hz => ?_, fun e2 => ?_⟩
        · rw [upd_same, List.map_set]
        · rcases List.mem_or_eq_of_mem_set hz with q1 | q1
          · exact zz z q1
          · rw [q1]
            exact mod_in h.pr _
        · have q2 : zs[k]? = (zs.set k ((zs[k] + more) % p))[k]? := by rw [← e2]
          rw [List.getElem?_eq_getElem hk, List.getElem?_set_self hk] at q2
          exact add_ne hat.1 hat.2 h.m0 h.m1 (Option.some.inj q2).symm
      · refine ⟨rfl, c, zs, zl, zM, zz, fun e2 => e ?_⟩
        rw [e2]
        exact decide_eq_true rfl
    · rintro σ H2 ⟨rfl, c2, ys, yl, yM, yr, yn⟩
      refine ⟨_, rfl, (by show 2 ≤ sizeLine; decide), fun T nT => ?_⟩
      exact q _ T M ys .non (c2.laid nT) upd_same gM ((upd_ne (ne_of_none yM nT)).trans yM) yl (agree_few h.pr yl h.np h.rng yr yn (by omega)) (.inl rfl)
end
end Ask
namespace Ask
open PySem PySem.Spec PyProof.Rows L2
/-- what len asks, told over the written part -/
def rLen (K : PySem.W.Frag) : List V → Hp → VK → Prop := fun xs H Q => ∃ x n, xs = [x] ∧ LenV K x H n ∧ Q (.int (n : Nat)) H
theorem call_lenK {X : Cx} {K : PySem.W.Frag} (e : X.K = K) : CallR X (.builtin "len") (rLen K) := by
  subst e
  exact call_len
theorem pe_toK {X : Cx} {K : PySem.W.Frag} (h : X.K = K) {e : Expr} {T : String} {r : V → List V → Hp → VK → Prop} {to : TE} {t : TA} (q : PE X e (tBM X.K T r to t)) : PE X e (tBM K T r to t) := by
  subst h
  exact q
theorem map_erase : ∀ (ls : List Int) (k : Nat), (ls.map V.int).eraseIdx k = (ls.eraseIdx k).map V.int
  | [], _ => rfl
  | _ :: _, 0 => rfl
  | a :: r, k + 1 => congrArg (V.int a :: ·) (map_erase r k)
theorem erase_perm : ∀ (ls : List Int) (k : Nat) (h : k < ls.length), (ls[k] :: ls.eraseIdx k).Perm ls
  | [], _, h => absurd h (Nat.not_lt_zero _)
  | _ :: _, 0, _ => List.Perm.refl _
  | a :: r, k + 1, h => (List.Perm.swap a _ _).trans ((erase_perm r k (Nat.lt_of_succ_lt_succ h)).cons a)
theorem rg_upto {p : Int} (h : 0 ≤ p) : rgV 0 p = (upto p.toNat).map V.int := by
  unfold rgV upto
  rw [List.map_map, Int.sub_zero]
  refine List.map_congr_left fun i _ => ?_
  show V.int (0 + (i : Int)) = V.int (i : Int)
  rw [Int.zero_add]
theorem upto_nodup (n : Nat) : (upto n).Nodup := (upto_lt n).imp fun h => by omega
section
variable {P : Program} {w : World} {K : PySem.W.Frag} {mg : Str → Option Value} {base : Heap} {fA : Addr} {cdv : Value} {A : Around} {outer : List Env} {s : Shared} {H : Hp} {E : XK}
/-- the third form: the row and a product of differences -/
theorem br2 {fT fP : Addr} {fdT fdP : FuncData} (ml : mg "len" = none) (mr : mg "range" = none) (mli : mg "list" = none) (ms : mg "sorted" = none) (hr : Room 1 (A.deeper (envOfC "_law_other" (defScope sOther) s.heap.objs.size fA cdv)))
    (GT : FnOk P w K mg base CX0 1 fT fdT ["_law_feed_here", "_law_many"] spTake) (kT : PySem.W.keepIn K (.ref fT) = true) (bT : Binds K fdT ["_law_feed_here", "_law_many"] []) (gT : mg "_law_take" = some (.ref fT))
    (GP : FnOk P w K mg base CX0 1 fP fdP ["_law_roots", "_law_x", "_law_share", "_law_p"] (spProd K)) (kP : PySem.W.keepIn K (.ref fP) = true) (bP : Binds K fdP ["_law_roots", "_law_x", "_law_share", "_law_p"] []) (gP : mg "_law_product" = some (.ref fP)) :
    ∃ t : TS, PSs (XO P w K mg base fA cdv A outer s H E) (ifB (ob 5)) t ∧
    ∀ (D : Ends) (fm : Option V) (H0 H1 : Hp) (f r : Addr) (xs : List Int) (p : Int) (k : Nat) (more : Int), Pre H0 H1 f r xs p k more → Post H0 f xs p D.rt → t D (so f r p fm k more) H1 := by
  refine ⟨_, pss_cons (ps_set (i := 7) scOther.nd rfl (.inr rfl) (pe_listRg (by rfl) (by rfl) mli (prg_1 (by rfl) mr (pv 2))))
      (pss_cons (ps_set (i := 8) scOther.nd rfl (.inr rfl) (pe_lc (own := [("_law_j", 9)]) (g := gName 9) (tt := tYes) (by rfl) scOther.nd
        (pi_range1 (by rfl) mr (pa_cons (pe_call GT hr (by rfl) gT kT bT .nil pass0 (pa_cons (pv 0) (pa_cons (pe_callB call_len (by rfl) ml PySem.boot_len (pa_cons (pv 1) pa_nil)) pa_nil))) pa_nil)) (blkOk_by (N := NO) (sc := defScope sOther) (by decide +kernel))
        (fun _ _ _ _ _ => pg_name (i := 9) scOther.nd rfl (Or.inl rfl)) (fun _ _ _ _ _ => pts_nil)
        (fun _ _ _ _ _ => pe_toK (K := K) rfl (pe_bm PySem.F.plainAttrs_list PySem.F.slot_list_pop PySem.F.type_list_pop mt_popAt (pv 7)
          (pa_cons (pe_call GT hr (by rfl) gT kT bT .nil pass0 (pa_cons (pv 0) (pa_cons (pe_callB (call_lenK (K := K) rfl) (by rfl) ml PySem.boot_len (pa_cons (pv 7) pa_nil)) pa_nil))) pa_nil)))))
      (pss_cons (ps_setLc (i := 6) (own := [("_law_j", 9)]) (g := gName 9) (tt := tYes) (by rfl) scOther.nd rfl rfl (sw_true rfl rfl rfl (by decide +kernel))
        (pi_range1 (by rfl) mr (pa_cons (pe_callB call_len (by rfl) ml PySem.boot_len (pa_cons (pv 1) pa_nil)) pa_nil)) (blkOk_by (N := NO) (sc := defScope sOther) (by decide +kernel))
        (fun _ _ _ _ _ => pg_name (i := 9) scOther.nd rfl (Or.inl rfl)) (fun _ _ _ _ _ => pts_nil)
        (fun _ _ _ _ _ => pe_op op_mod (pe_op op_add (pe_ix (r := rIxL K) ix_list (pv 1) (pv 9) (fun _ _ => rfl))
          (pe_call GP hr (by rfl) gP kP bP .nil pass0 (pa_cons (pv 8) (pa_cons (pv 9) (pa_cons (pv 5) (pa_cons (pv 2) pa_nil)))))) (pv 2)))
      (pss_one (ps_ret (pe_tup (pa_cons (pv 6) (pa_cons (pe_callB cr_sorted (by rfl) ms boot_sorted (pa_cons (pv 8) pa_nil)) pa_nil))))))), ?_⟩
  intro D fm H0 H1 f r xs p k more h q
  have hlo := h.pr.lo
  have hhi := h.pr.hi
  have hk := h.hk
  have n12 := h.n12
  have np := h.np
  -- left = list(range(p))
  refine ⟨_, rfl, p, rfl, RgOk.of_le (by omega) (by omega) (by omega) (by omega), fun L nL => ?_⟩
  have c1 := h.cur.laid (o := .lst (rgV 0 p)) nL
  have fL := h.cur.free nL
  have gL := h.cur.nf nL
  have eL : (upd H1 L (.lst (rgV 0 p))) L = some (.lst ((upto p.toNat).map V.int)) := by rw [upd_same, rg_upto (by omega)]
  obtain ⟨a, b, hF⟩ := c1.fd
  -- roots
  refine ⟨_, rfl, _, rfl, .ref r, xs.length, rfl, .inl ⟨_, h.seq K c1, (len_map xs).symm⟩, f, xs.length, a, b, rfl, by omega, by omega, hF, fun m a' b' m0 m1 hb' => ?_⟩
  have c2 := c1.draw (a := a') hb'
  refine ⟨m, rfl, by omega, by omega, fun M nM => ?_⟩
  have eL2 : (upd (upd H1 L (.lst (rgV 0 p))) f (.lst [.int a', .int b'])) L = some (.lst ((upto p.toNat).map V.int)) := (upd_ne gL).trans eL
  have nLM : L ≠ M := ne_of_none eL2 nM
  have fM := c2.free nM
  have gM := c2.nf nM
  refine lc_range (fun j H' => Cur H0 H' f ∧ ∃ rs ls : List Int, H' L = some (.lst (ls.map V.int)) ∧ H' M = some (.lst (rs.map V.int)) ∧ rs.length = j ∧ (rs ++ ls).Perm (upto p.toNat))
    ⟨c2.laid nM, [], upto p.toNat, (upd_ne nLM).trans eL2, upd_same, rfl, List.Perm.refl _⟩ (fun j H' hj hP => ?_) (fun H' hP => ?_)
  · obtain ⟨c, rs, ls, zL, zM, rl, pm⟩ := hP
    have pl := pm.length_eq
    rw [List.length_append, upto_len] at pl
    obtain ⟨a2, b2, hF2⟩ := c.fd
    refine ⟨rfl, _, rfl, .inl ⟨rfl, _, SqL.of zL⟩, _, rfl, _, rfl, .ref L, ls.length, rfl, .inl ⟨_, SqL.of zL, (len_map ls).symm⟩, f, ls.length, a2, b2, rfl, by omega, by omega, hF2, fun d a3 b3 d0 d1 hb3 => ?_⟩
    have hd : d.toNat < ls.length := by omega
    refine ⟨L, _, d, d.toNat, _, rfl, rfl, (upd_ne gL).trans zL, by omega, by omega, PySem.StrLaws.seqIndex_nonneg d0 (by rw [len_map]; exact d1), at_map hd, ?_⟩
    refine ⟨_, (upd_ne nLM.symm).trans ((upd_ne gM).trans zM), ?_, ((c.draw hb3).put fL gL).put fM gM, rs ++ [ls[d.toNat]], ls.eraseIdx d.toNat, ?_, ?_, ?_, ?_⟩
    · rw [len_map]
      exact small1000 (by omega)
    · rw [upd_ne nLM, upd_same, map_erase]
    · rw [upd_same, List.map_append]
      rfl
    · rw [List.length_append, List.length_singleton, rl]
    · rw [List.append_assoc]
      exact (List.Perm.append_left rs (erase_perm ls _ hd)).trans pm
  · obtain ⟨c, rs, ls, zL, zM, rl, pm⟩ := hP
    have few : rs.length < xs.length := by omega
    have nd : rs.Nodup := (List.nodup_append.mp (pm.nodup_iff.mpr (upto_nodup _))).1
    have rin : ∀ z ∈ rs, 0 ≤ z ∧ z < p := fun z hz => by
      have z1 := mem_upto.mp (pm.mem_iff.mp (List.mem_append_left ls hz))
      omega
    -- the other row
    refine ⟨_, rfl, .ref r, xs.length, rfl, .inl ⟨_, h.seq K c, (len_map xs).symm⟩, _, rfl, by omega, by omega, fun O nO => ?_⟩
    have nMO : M ≠ O := ne_of_none zM nO
    have fO := c.free nO
    have gO := c.nf nO
    refine lc_range (n := xs.length) (fun j H' => Cur H0 H' f ∧ H' M = some (.lst (rs.map V.int)) ∧ ∃ zs : List Int, zs.length = j ∧ H' O = some (.lst (zs.map V.int)) ∧ ∀ (i : Nat) (a : i < zs.length) (b : i < xs.length), zs[i] = (xs[i] + pd p (i : Int) rs more) % p)
      ⟨c.laid nO, (upd_ne nMO).trans zM, [], rfl, upd_same, fun i a => absurd a (Nat.not_lt_zero _)⟩ (fun j H2 hj hP => ?_) (fun H2 hP => ?_)
    · obtain ⟨c2, eM, zs, zl, zO, zz⟩ := hP
      have e0 : (0 : Int) + (j : Int) = (j : Int) := Int.zero_add _
      refine ⟨rfl, _, rfl, _, rfl, r, _, _, .int xs[j], rfl, rfl, h.seq K c2, at_of (j := j) e0 (at_map hj), _, rfl, _, rfl, _, rfl, _, rfl, M, rs, 0 + (j : Int), more, p, rfl, SqL.of eM, h.pr, by have := h.m0; omega, h.m1, ?_⟩
      refine ⟨_, _, rfl, rfl, _, rfl, _, _, rfl, rfl, (show (0 : Int) < p by omega), ?_⟩
      rw [e0]
      refine ⟨_, zO, ?_, c2.put fO gO, (upd_ne nMO).trans eM, zs ++ [(xs[j] + pd p (j : Int) rs more) % p], ?_, ?_, fun i ja jb => ?_⟩
      · rw [len_map]
        exact small1000 (by omega)
      · rw [List.length_append, List.length_singleton, zl]
      · rw [upd_same, List.map_append]
        rfl
      · rcases get_app ja with ⟨l, e⟩ | ⟨l, e⟩
        · rw [e]
          exact zz i l jb
        · rw [e]
          have ij : i = j := by omega
          subst ij
          rfl
    · obtain ⟨c2, eM, zs, zl, zO, zz⟩ := hP
      refine ⟨_, rfl, _, rfl, M, rs, rfl, SqL.of eM, by omega, fun ss S pS srt nS => ⟨(by show 2 ≤ sizeLine; decide), fun T nT => ?_⟩⟩
      obtain ⟨ag, fw⟩ := agree_roots h.pr zl h.np h.m0 h.m1 nd rin few (fun j hj => zz j (by omega) hj) pS srt (n := p.toNat) (by omega)
      have nOS : O ≠ S := ne_of_none zO nS
      have c3 := (c2.laid (o := .lst (ss.map V.int)) nS).laid (o := .tup [.ref O, .ref S]) nT
      refine q _ T O zs (.ref S) c3 upd_same gO ?_ zl (by rw [ag]; exact fw) (.inr ⟨S, rfl, c2.nf nS, ?_⟩)
      · have e1 : (upd H2 S (.lst (ss.map V.int))) O = some (.lst (zs.map V.int)) := (upd_ne nOS).trans zO
        exact (upd_ne (ne_of_none e1 nT)).trans e1
      · have e1 : (upd H2 S (.lst (ss.map V.int))) S = some (.lst (ss.map V.int)) := upd_same
        rw [ag]
        exact (upd_ne (ne_of_none e1 nT)).trans e1
end
end Ask
namespace Ask
open PySem PySem.Spec PyProof.Rows L2
section
variable {P : Program} {w : World} {K : PySem.W.Frag} {mg : Str → Option Value} {base : Heap}
def spOther : Sp := fun vs H Q _ => ∃ (f r : Addr) (xs : List Int) (p a b : Int), vs = [.ref f, .ref r, .int p] ∧ FeedAt H f a b ∧ H r = some (.lst (xs.map V.int)) ∧ r ≠ f ∧ Pr p ∧ 1 ≤ xs.length ∧ xs.length ≤ 12 ∧ (xs.length : Int) ≤ p ∧ (∀ z ∈ xs, 0 ≤ z ∧ z < p) ∧ Post H f xs p Q
theorem ok_other {g fT fP : Addr} {fd fdT fdP : FuncData} (F : Fun K "_law_other" "_law_other" sOther g fd) (FT : Fun K "_law_take" "_law_take" sTake fT fdT) (bT : Binds K fdT ["_law_feed_here", "_law_many"] []) (gT : mg "_law_take" = some (.ref fT))
    (FP : Fun K "_law_product" "_law_product" sProd fP fdP) (bP : Binds K fdP ["_law_roots", "_law_x", "_law_share", "_law_p"] []) (gP : mg "_law_product" = some (.ref fP))
    (ml : mg "len" = none) (mr : mg "range" = none) (mi : mg "int" = none) (mli : mg "list" = none) (ms : mg "sorted" = none) : FnOk P w K mg base CX0 2 g fd ["_law_feed_here", "_law_row", "_law_p"] spOther := by
  have GT : FnOk P w K mg base CX0 1 fT fdT ["_law_feed_here", "_law_many"] spTake := ok_take FT
  have GP : FnOk P w K mg base CX0 1 fP fdP ["_law_roots", "_law_x", "_law_share", "_law_p"] (spProd K) := ok_prod FP
  refine F.ok scOther (fun vs H Q E h => ?_) (fun cdv A outer s H vs Q E hr h => ?_)
  · obtain ⟨f, r, xs, p, a, b, rfl, _⟩ := h
    rfl
  · obtain ⟨f, r, xs, p, a, b, rfl, hF, hR, rf, hp, n1, n12, np, rng, q⟩ := h
    have hlo := hp.lo
    have hhi := hp.hi
    obtain ⟨t0, h0, q0⟩ := br0 (P := P) (w := w) (K := K) (base := base) (fA := g) (cdv := cdv) (A := A) (outer := outer) (s := s) (H := H) (E := E) ml mr
    obtain ⟨t1, h1, q1⟩ := br1 (P := P) (w := w) (K := K) (base := base) (fA := g) (cdv := cdv) (A := A) (outer := outer) (s := s) (H := H) (E := E) ml mi hr GT FT.kp bT gT
    obtain ⟨t2, h2, q2⟩ := br2 (P := P) (w := w) (K := K) (base := base) (fA := g) (cdv := cdv) (A := A) (outer := outer) (s := s) (H := H) (E := E) ml mr mli ms hr GT FT.kp bT gT GP FP.kp bP gP
    obtain ⟨t3, h3, q3⟩ := br3 (P := P) (w := w) (K := K) (base := base) (fA := g) (cdv := cdv) (A := A) (outer := outer) (s := s) (H := H) (E := E) hr GT FT.kp bT gT
    refine ⟨_, pss_cons (ps_set (i := 3) scOther.nd rfl (.inl rfl) (pe_call GT hr (by rfl) gT FT.kp bT .nil pass0 (pa_cons (pv 0) (pa_cons pe_int pa_nil))))
      (pss_cons (ps_set (i := 4) scOther.nd rfl (.inr rfl) (pe_call GT hr (by rfl) gT FT.kp bT .nil pass0 (pa_cons (pv 0) (pa_cons (pe_callB call_len (by rfl) ml PySem.boot_len (pa_cons (pv 1) pa_nil)) pa_nil))))
      (C8.pss_cut (ps_set (i := 5) scOther.nd rfl (.inr rfl) (pe_op op_add pe_int (pe_call GT hr (by rfl) gT FT.kp bT .nil pass0 (pa_cons (pv 0) (pa_cons (pe_op op_sub (pv 2) pe_int) pa_nil)))))
      (pss_cons (ps_if (pt_cmpR op_eq (pv 3) pe_int (nomark _)) h0 pss_nil)
      (pss_cons (ps_if (pt_cmpR op_eq (pv 3) pe_int (nomark _)) h1 pss_nil)
      (pss_cons (ps_if (pt_cmpR op_eq (pv 3) pe_int (nomark _)) h2 pss_nil) h3))))), ?_⟩
    refine ⟨_, rfl, f, 4, a, b, rfl, by decide, by decide, hF, fun fm a1 b1 _ _ k1 => ?_⟩
    have c1 := (Cur.refl hF).draw (a := a1) k1
    have e1 : LI K (upd H f (.lst [.int a1, .int b1])) r xs := SqL.of (c1.kp _ _ rf hR)
    refine ⟨_, rfl, _, rfl, .ref r, xs.length, rfl, .inl ⟨_, e1, (len_map xs).symm⟩, f, xs.length, a1, b1, rfl, by omega, by omega, ⟨upd_same, k1⟩, fun d a2 b2 d0 d1 k2 => ?_⟩
    have c2 := c1.draw (a := a2) k2
    refine ⟨fun σ H' => ∃ (k : Nat) (more : Int), σ = so f r p (some (.int fm)) k more ∧ Pre H H' f r xs p k more, ?_, ?_⟩
    · refine ⟨_, rfl, _, rfl, _, _, rfl, rfl, f, p - 1, a2, b2, rfl, by omega, by omega, ⟨upd_same, k2⟩, fun m a3 b3 m0 m1 k3 => ?_⟩
      refine ⟨_, _, rfl, rfl, d.toNat, 1 + m, ?_, c2.draw k3, hR, rf, hp, n12, np, rng, by omega, by omega, by omega⟩
      have ed : d = ((d.toNat : Nat) : Int) := by omega
      show _ = [some (V.ref f), some (V.ref r), some (V.int p), some (V.int fm), some (V.int ((d.toNat : Nat) : Int)), some (V.int (1 + m)), none, none, none, none, none]
      rw [← ed]
      rfl
    · rintro σ H' ⟨k, more, rfl, pre⟩
      refine ⟨_, rfl, rfl, _, rfl, ite2 (fun _ => ?_) (fun _ => ?_)⟩
      · exact q0 _ _ H H' f r xs p k more pre q
      refine ⟨_, rfl, rfl, _, rfl, ite2 (fun _ => ?_) (fun _ => ?_)⟩
      · exact q1 _ _ H H' f r xs p k more pre q
      refine ⟨_, rfl, rfl, _, rfl, ite2 (fun _ => ?_) (fun _ => ?_)⟩
      · exact q2 _ _ H H' f r xs p k more pre q
      · exact q3 _ _ H H' f r xs p k more pre q
end
end Ask
namespace Ask
open PySem PySem.Spec PyProof.Rows L2
abbrev NR : List Str := ["_law_row", "_law_other_here", "_law_meets", "_law_share", "_law_p", "_law_found", "_law_gaps", "_law_times", "_law_r", "_law_one", "_law_two", "_law_j", "_law_value"]
section
variable {P : Program} {w : World} {K : PySem.W.Frag} {mg : Str → Option Value} {base : Heap}
def spRight (K : PySem.W.Frag) : Sp := fun vs H Q _ => ∃ (r o : Addr) (xs ys : List Int) (mv : V) (c p : Int), vs = [.ref r, .ref o, mv, .int c, .int p] ∧ LI K H r xs ∧ LI K H o ys ∧ Pr p ∧ 1 ≤ xs.length ∧ xs.length ≤ 12 ∧ (xs.length : Int) ≤ p ∧ ys.length = xs.length ∧ 0 ≤ c ∧ c < p ∧
  (agree xs ys p p.toNat).length < xs.length ∧ (mv = .non ∨ ∃ m, mv = .ref m ∧ LI K H m (agree xs ys p p.toNat)) ∧ ∀ H', Same H H' → Q (.bl true) H'
theorem ok_right {g fV fI : Addr} {fd fdV fdI : FuncData} (F : Fun K "_law_right" "_law_right" sRight g fd) (FV : Fun K "value_at" "value_at" sVal fV fdV) (bV : Binds K fdV ["values", "r", "p"] []) (gV : mg "value_at" = some (.ref fV))
    (FI : Fun K "inverse_of" "inverse_of" sInv fI fdI) (bI : Binds K fdI ["a", "p"] []) (gI : mg "inverse_of" = some (.ref fI)) (ml : mg "len" = none) (mr : mg "range" = none) :
    FnOk P w K mg base CX0 3 g fd ["_law_row", "_law_other_here", "_law_meets", "_law_share", "_law_p"] (spRight K) := by
  have GV : FnOk P w K mg base CX0 2 fV fdV ["values", "r", "p"] (spVal K) := ok_val FV FI bI gI ml mr
  refine F.ok scRight (fun vs H Q E h => ?_) (fun cdv A outer s H vs Q E hr h => ?_)
  · obtain ⟨r, o, xs, ys, mv, c, p, rfl, _⟩ := h
    rfl
  · obtain ⟨r, o, xs, ys, mv, c, p, rfl, hX, hY, hp, n1, n12, np, yl, c0, c1, few, hm, q⟩ := h
    have hlo := hp.lo
    have hhi := hp.hi
    refine ⟨_, pss_cons (ps_set (i := 5) scRight.nd rfl (.inl rfl) (pe_lst pa_nil))
      (C8.pss_cut (ps_setLc (i := 6) (own := [("_law_j", 11)]) (g := gName 11) (tt := tYes) (by rfl) scRight.nd rfl rfl (sw_true rfl rfl rfl (by decide +kernel))
        (pi_range1 (by rfl) mr (pa_cons (pe_callB call_len (by rfl) ml PySem.boot_len (pa_cons (pv 0) pa_nil)) pa_nil)) (blkOk_by (N := NR) (sc := defScope sRight) (by decide +kernel))
        (fun _ _ _ _ _ => pg_name (i := 11) scRight.nd rfl (Or.inl rfl)) (fun _ _ _ _ _ => pts_nil)
        (fun _ _ _ _ _ => pe_op op_mod (pe_op op_sub (pe_ix (r := rIxL K) ix_list (pv 0) (pv 11) (fun _ _ => rfl)) (pe_ix (r := rIxL K) ix_list (pv 1) (pv 11) (fun _ _ => rfl))) (pv 4)))
      (C8.pss_cut (ps_setLc (i := 7) (own := [("_law_value", 12)]) (g := gName 12) (tt := tYes) (by rfl) scRight.nd rfl rfl (sw_true rfl rfl rfl (by decide +kernel))
        (pi_list (pv 0)) (blkOk_by (N := NR) (sc := defScope sRight) (by decide +kernel))
        (fun _ _ _ _ _ => pg_name (i := 12) scRight.nd rfl (Or.inl rfl)) (fun _ _ _ _ _ => pts_nil)
        (fun _ _ _ _ _ => pe_op op_mod (pe_op op_mul (pv 12) (pv 3)) (pv 4)))
      (pss_cons (ps_for PassesOwn.never (by rfl) (pi_range1 (by rfl) mr (pa_cons (pv 4) pa_nil)) (pg_name (i := 8) scRight.nd rfl (.inl rfl))
        (pss_cons (ps_set (i := 9) scRight.nd rfl (.inl rfl) (pe_call GV hr (by rfl) gV FV.kp bV .nil pass0 (pa_cons (pv 0) (pa_cons (pv 8) (pa_cons (pv 4) pa_nil)))))
        (pss_cons (ps_set (i := 10) scRight.nd rfl (.inl rfl) (pe_call GV hr (by rfl) gV FV.kp bV .nil pass0 (pa_cons (pv 1) (pa_cons (pv 8) (pa_cons (pv 4) pa_nil)))))
        (C8.pss_cut (ps_if (pt_cmpR op_eq (pv 9) (pv 10) (nomark _)) (pss_one (ps_expr (pe_bm PySem.F.plainAttrs_list PySem.F.slot_list_append PySem.F.type_list_append mt_append (pv 5) (pa_cons (pv 8) pa_nil)))) pss_nil)
        (pss_one (ps_if (PW.pt (pw_or
            (pt_cmpR op_ne (pe_call GV hr (by rfl) gV FV.kp bV .nil pass0 (pa_cons (pv 6) (pa_cons (pv 8) (pa_cons (pv 4) pa_nil)))) (pe_op op_mod (pe_op op_sub (pv 9) (pv 10)) (pv 4)) (nomark _))
            (pw_or1 (pt_cmpR op_ne (pe_call GV hr (by rfl) gV FV.kp bV .nil pass0 (pa_cons (pv 7) (pa_cons (pv 8) (pa_cons (pv 4) pa_nil)))) (pe_op op_mod (pe_op op_mul (pv 9) (pv 3)) (pv 4)) (nomark _)))))
          (pss_one (ps_ret pe_bl)) pss_nil))))))
      (pss_one (ps_ret (pe_and (pe_cmpR op_lt (pe_callB call_len (by rfl) ml PySem.boot_len (pa_cons (pv 5) pa_nil)) (pe_callB call_len (by rfl) ml PySem.boot_len (pa_cons (pv 0) pa_nil)) (nomark _))
        (pe_one (pe_or (pe_cmpR op_isN (pv 2) pe_non (nomark _)) (pe_one (pe_cmpR (op_eqD hr.units) (pv 5) (pv 2) (nomark _))))))))))), ?_⟩
    -- found = []
    refine ⟨(by show 0 ≤ sizeLine; decide), fun B nB => ?_⟩
    have s0 : Same H (upd H B (.lst [])) := same_new nB
    -- the gaps
    refine ⟨fun σ H' => ∃ (G : Addr) (gs : List Int), σ = [some (.ref r), some (.ref o), some mv, some (.int c), some (.int p), some (.ref B), some (.ref G), none, none, none, none, none, none] ∧ Same H H' ∧ H' B = some (.lst []) ∧ H' G = some (.lst (gs.map V.int)) ∧ B ≠ G ∧
      gs.length = xs.length ∧ ∀ (j : Nat) (a : j < gs.length) (b : j < xs.length) (d : j < ys.length), gs[j] = (xs[j] - ys[j]) % p, ?_, ?_⟩
    · refine ⟨_, rfl, .ref r, xs.length, rfl, .inl ⟨_, s0.seq hX, (len_map xs).symm⟩, _, rfl, by omega, by omega, fun G nG => ?_⟩
      have nBG : B ≠ G := ne_of_none upd_same nG
      have fG : H G = none := s0.free nG
      refine lc_range (n := xs.length) (fun i H' => Same H H' ∧ H' B = some (.lst []) ∧ ∃ gs : List Int, gs.length = i ∧ H' G = some (.lst (gs.map V.int)) ∧ ∀ (j : Nat) (a : j < gs.length) (b : j < xs.length) (d : j < ys.length), gs[j] = (xs[j] - ys[j]) % p)
        ⟨same_updN fG s0, (upd_ne nBG).trans upd_same, [], rfl, upd_same, fun j a => absurd a (Nat.not_lt_zero _)⟩ (fun i H' hi hP => ?_) (fun H' hP => ?_)
      · obtain ⟨s1, eB, gs, gl, eG, gg⟩ := hP
        have e0 : (0 : Int) + (i : Int) = (i : Int) := Int.zero_add _
        have hi2 : i < ys.length := by omega
        refine ⟨rfl, _, rfl, _, rfl, r, _, _, .int xs[i], rfl, rfl, s1.seq hX, at_of (j := i) e0 (at_map hi), _, rfl, _, rfl, o, _, _, .int ys[i], rfl, rfl, s1.seq hY, at_of (j := i) e0 (at_map hi2), _, _, rfl, rfl, _, rfl, _, _, rfl, rfl, (show (0 : Int) < p by omega), ?_⟩
        refine ⟨_, eG, ?_, same_updN fG s1, (upd_ne nBG).trans eB, gs ++ [(xs[i] - ys[i]) % p], ?_, ?_, fun j ja jb jd => ?_⟩
        · rw [len_map]
          exact small1000 (by omega)
        · rw [List.length_append, List.length_singleton, gl]
        · rw [upd_same, List.map_append]
          rfl
        · rcases get_app ja with ⟨l, e⟩ | ⟨l, e⟩
          · rw [e]
            exact gg j l jb jd
          · rw [e]
            have ij : j = i := by omega
            subst ij
            rfl
      · obtain ⟨s1, eB, gs, gl, eG, gg⟩ := hP
        exact ⟨G, gs, rfl, s1, eB, eG, nBG, gl, gg⟩
    rintro σ H1 ⟨G, gs, rfl, s1, eB, eG, nBG, gl, gg⟩
    -- the multiples
    refine ⟨fun σ H' => ∃ (M : Addr) (ts : List Int), σ = [some (.ref r), some (.ref o), some mv, some (.int c), some (.int p), some (.ref B), some (.ref G), some (.ref M), none, none, none, none, none] ∧ Same H H' ∧ H' B = some (.lst []) ∧ H' G = some (.lst (gs.map V.int)) ∧ H' M = some (.lst (ts.map V.int)) ∧ B ≠ M ∧
      ts.length = xs.length ∧ ∀ (j : Nat) (a : j < ts.length) (b : j < xs.length), ts[j] = xs[j] * c % p, ?_, ?_⟩
    · refine ⟨_, rfl, r, rfl, ⟨_, s1.seq hX⟩, fun M nM => ?_⟩
      have nBM : B ≠ M := ne_of_none eB nM
      have nGM : G ≠ M := ne_of_none eG nM
      have fM : H M = none := s1.free nM
      refine lc_list (K := K) (a := r) (xs := xs.map V.int) (fun i H' => Same H H' ∧ H' B = some (.lst []) ∧ H' G = some (.lst (gs.map V.int)) ∧ ∃ ts : List Int, ts.length = i ∧ H' M = some (.lst (ts.map V.int)) ∧ ∀ (j : Nat) (a : j < ts.length) (b : j < xs.length), ts[j] = xs[j] * c % p)
        ⟨same_updN fM s1, (upd_ne nBM).trans eB, (upd_ne nGM).trans eG, [], rfl, upd_same, fun j a => absurd a (Nat.not_lt_zero _)⟩ (fun i H' _ hP => hP.1.seq hX) (fun i x H' hx hP => ?_) (fun H' hP => ?_)
      · obtain ⟨hi, rfl⟩ := at_inv hx
        obtain ⟨s2, eB, eG, ts, tl, eM, tt⟩ := hP
        refine ⟨rfl, _, rfl, _, rfl, _, _, rfl, rfl, .inr ⟨by omega, by omega⟩, _, rfl, _, _, rfl, rfl, (show (0 : Int) < p by omega), ?_⟩
        refine ⟨_, eM, ?_, same_updN fM s2, (upd_ne nBM).trans eB, (upd_ne nGM).trans eG, ts ++ [xs[i] * c % p], ?_, ?_, fun j ja jb => ?_⟩
        · rw [len_map]
          exact small1000 (by omega)
        · rw [List.length_append, List.length_singleton, tl]
        · rw [upd_same, List.map_append]
          rfl
        · rcases get_app ja with ⟨l, e⟩ | ⟨l, e⟩
          · rw [e]
            exact tt j l jb
          · rw [e]
            have ij : j = i := by omega
            subst ij
            rfl
      · obtain ⟨s2, eB, eG, ts, tl, eM, tt⟩ := hP
        exact ⟨M, ts, rfl, s2, eB, eG, eM, nBM, tl.trans (len_map xs), tt⟩
    rintro σ H2 ⟨M, ts, rfl, s2, eB2, eG2, eM2, nBM, tl, tt⟩
    have fB : H B = none := nB
    -- the loop
    refine ⟨_, rfl, p, rfl, by omega, by omega, ?_⟩
    refine for_range (lo := 0) (n := p.toNat) (fun i σ H' => ∃ y8 y9 y10, σ = [some (.ref r), some (.ref o), some mv, some (.int c), some (.int p), some (.ref B), some (.ref G), some (.ref M), y8, y9, y10, none, none] ∧ Same H H' ∧ H' B = some (.lst ((agree xs ys p i).map V.int)) ∧ H' G = some (.lst (gs.map V.int)) ∧ H' M = some (.lst (ts.map V.int)))
      ⟨none, none, none, rfl, s2, eB2, eG2, eM2⟩ ?_ ?_
    · rintro i σ H3 hi ⟨y8, y9, y10, rfl, s3, eB, eG, eM⟩
      rw [Int.zero_add]
      have i0 : (0 : Int) ≤ (i : Int) := by omega
      have i1 : (i : Int) < p := by omega
      have nG : B ≠ G := nBG
      refine ⟨_, rfl, _, rfl, _, rfl, r, xs, (i : Int), p, rfl, s3.seq hX, hp, n1, n12, np, i0, i1, fun H4 t4 => ?_⟩
      refine ⟨_, rfl, _, rfl, _, rfl, o, ys, (i : Int), p, rfl, (s3.trans t4).seq hY, hp, by omega, by omega, by omega, i0, i1, fun H5 t5 => ?_⟩
      have t35 := t4.trans t5
      refine ⟨fun σ H' => σ = [some (.ref r), some (.ref o), some mv, some (.int c), some (.int p), some (.ref B), some (.ref G), some (.ref M), some (.int (i : Int)), some (.int (va xs i p)), some (.int (va ys i p)), none, none] ∧ Same H H' ∧ H' B = some (.lst ((agree xs ys p (i + 1)).map V.int)) ∧ H' G = some (.lst (gs.map V.int)) ∧ H' M = some (.lst (ts.map V.int)), ?_, ?_⟩
      · refine ⟨_, rfl, _, rfl, rfl, _, rfl, ite2 (fun e => ?_) (fun e => ?_)⟩
        · have e' : va xs i p = va ys i p := V.int.inj (of_decide_eq_true e)
          have eB5 := t35 _ _ eB
          refine ⟨_, rfl, .inl ⟨rfl, _, SqL.of eB5⟩, _, rfl, B, _, _, rfl, rfl, eB5, ?_, rfl, same_updN fB (s3.trans t35), ?_, (upd_ne nBG.symm).trans (t35 _ _ eG), (upd_ne nBM.symm).trans (t35 _ _ eM)⟩
          · rw [len_map]
            refine Nat.lt_of_le_of_lt (List.length_filter_le _ _) ?_
            rw [upto_len]
            exact small1000 (by omega)
          · rw [upd_same, agree_succ, if_pos e', List.map_append]
            rfl
        · have e' : ¬ va xs i p = va ys i p := fun z => e (decide_eq_true (by rw [z]))
          refine ⟨rfl, s3.trans t35, ?_, t35 _ _ eG, t35 _ _ eM⟩
          rw [agree_succ, if_neg e', List.append_nil]
          exact t35 _ _ eB
      · rintro σ H6 ⟨rfl, s6, eB6, eG6, eM6⟩
        refine ⟨_, rfl, _, rfl, _, rfl, G, gs, (i : Int), p, rfl, SqL.of eG6, hp, by omega, by omega, by omega, i0, i1, fun H7 t7 => ?_⟩
        have g1 : va gs i p = (va xs i p - va ys i p) % p := va_sub hp yl gl (fun j hj => gg j (by omega) hj (by omega)) i
        refine ⟨_, rfl, _, rfl, _, _, rfl, rfl, _, rfl, _, _, rfl, rfl, (show (0 : Int) < p by omega), rfl, _, rfl, ?_⟩
        refine ite2 (fun e => ?_) (fun _ => ?_)
        · rw [g1] at e
          simp at e
        · refine ⟨_, rfl, _, rfl, _, rfl, M, ts, (i : Int), p, rfl, SqL.of (t7 _ _ eM6), hp, by omega, by omega, by omega, i0, i1, fun H8 t8 => ?_⟩
          have g2 : va ts i p = va xs i p * c % p := va_mul hp tl (fun j hj => tt j (by omega) hj) i
          have vx := va_in hp xs i
          refine ⟨_, rfl, _, rfl, _, _, rfl, rfl, .inl ⟨by omega, by omega⟩, _, rfl, _, _, rfl, rfl, (show (0 : Int) < p by omega), rfl, _, rfl, ?_⟩
          refine ite2 (fun e => ?_) (fun _ => ?_)
          · rw [g2] at e
            simp at e
          · have t68 := t7.trans t8
            exact ⟨_, _, _, rfl, s6.trans t68, t68 _ _ eB6, t68 _ _ eG6, t68 _ _ eM6⟩
    · rintro σ H3 ⟨y8, y9, y10, rfl, s3, eB, eG, eM⟩
      refine ⟨_, rfl, .ref B, (agree xs ys p p.toNat).length, rfl, .inl ⟨_, SqL.of eB, (len_map _).symm⟩, _, rfl, .ref r, xs.length, rfl, .inl ⟨_, s3.seq hX, (len_map xs).symm⟩, _, _, rfl, rfl, _, rfl, ?_⟩
      rw [decide_eq_true (show ((agree xs ys p p.toNat).length : Int) < (xs.length : Int) by omega)]
      rcases hm with rfl | ⟨m, rfl, hM⟩
      · exact ⟨_, rfl, rfl, _, rfl, q _ s3⟩
      · refine ⟨_, rfl, rfl, _, rfl, ?_⟩
        refine ⟨_, rfl, _, rfl, _, _, .lst (SqL.of eB) (dp_ints _), .lst (s3.seq hM) (dp_ints _), shaped_ints _, shaped_ints _, ?_⟩
        rw [eqv_ints, decide_eq_true rfl]
        exact q _ s3
end
end Ask
namespace Ask
open PySem PySem.Spec PyProof.Rows L2
abbrev NL : List Str := ["_law_script", "_law_k", "_law_feed_here", "_law_many", "_law_p", "_law_row", "_law_other_here", "_law_meets", "_law_j"]
section
variable {P : Program} {w : World} {K : PySem.W.Frag} {mg : Str → Option Value} {base : Heap}
def spLaw (K : PySem.W.Frag) : Sp := fun vs H Q _ => ∃ (a : Addr) (ns : List Int), vs = [.ref a] ∧ SqL K H a (ns.map V.int) ∧ ns.length ≤ 63 ∧ ∀ H', Q (.bl true) H'
theorem ok_law {g fI fV fF fT fP fN fD fO fR : Addr} {fd fdI fdV fdF fdT fdP fdN fdD fdO fdR : FuncData} (F : Fun K "law" "law" sLaw g fd)
    (FI : Fun K "inverse_of" "inverse_of" sInv fI fdI) (bI : Binds K fdI ["a", "p"] []) (gI : mg "inverse_of" = some (.ref fI))
    (FV : Fun K "value_at" "value_at" sVal fV fdV) (bV : Binds K fdV ["values", "r", "p"] []) (gV : mg "value_at" = some (.ref fV))
    (FF : Fun K "_law_feed" "_law_feed" sFeed fF fdF) (bF : Binds K fdF ["_law_script", "_law_k"] []) (gF : mg "_law_feed" = some (.ref fF))
    (FT : Fun K "_law_take" "_law_take" sTake fT fdT) (bT : Binds K fdT ["_law_feed_here", "_law_many"] []) (gT : mg "_law_take" = some (.ref fT))
    (FP : Fun K "_law_is_prime" "_law_is_prime" sIsP fP fdP) (bP : Binds K fdP ["_law_number"] []) (gP : mg "_law_is_prime" = some (.ref fP))
    (FN : Fun K "_law_prime" "_law_prime" sPrime fN fdN) (bN : Binds K fdN ["_law_feed_here", "_law_least"] []) (gN : mg "_law_prime" = some (.ref fN))
    (FD : Fun K "_law_product" "_law_product" sProd fD fdD) (bD : Binds K fdD ["_law_roots", "_law_x", "_law_share", "_law_p"] []) (gD : mg "_law_product" = some (.ref fD))
    (FO : Fun K "_law_other" "_law_other" sOther fO fdO) (bO : Binds K fdO ["_law_feed_here", "_law_row", "_law_p"] []) (gO : mg "_law_other" = some (.ref fO))
    (FR : Fun K "_law_right" "_law_right" sRight fR fdR) (bR : Binds K fdR ["_law_row", "_law_other_here", "_law_meets", "_law_share", "_law_p"] []) (gR : mg "_law_right" = some (.ref fR))
    (ml : mg "len" = none) (mr : mg "range" = none) (mm : mg "max" = none) (mi : mg "int" = none) (mli : mg "list" = none) (ms : mg "sorted" = none) :
    FnOk P w K mg base CX0 4 g fd ["_law_script"] (spLaw K) := by
  have GF : FnOk P w K mg base CX0 1 fF fdF ["_law_script", "_law_k"] (spFeed K) := ok_feed FF ml
  have GT : FnOk P w K mg base CX0 1 fT fdT ["_law_feed_here", "_law_many"] spTake := ok_take FT
  have GN : FnOk P w K mg base CX0 2 fN fdN ["_law_feed_here", "_law_least"] spPrime := ok_prime FN FT bT gT FP bP gP mr mm
  have GO : FnOk P w K mg base CX0 2 fO fdO ["_law_feed_here", "_law_row", "_law_p"] spOther := ok_other FO FT bT gT FD bD gD ml mr mi mli ms
  have GR : FnOk P w K mg base CX0 3 fR fdR ["_law_row", "_law_other_here", "_law_meets", "_law_share", "_law_p"] (spRight K) := ok_right FR FV bV gV FI bI gI ml mr
  refine F.ok scLaw (fun vs H Q E h => ?_) (fun cdv A outer s H vs Q E hr h => ?_)
  · obtain ⟨a, ns, rfl, _⟩ := h
    rfl
  · obtain ⟨a, ns, rfl, hS, h63, q⟩ := h
    have hr2 : Room 2 _ := hr.mono (by decide)
    have hr1 : Room 1 _ := hr.mono (by decide)
    refine ⟨_, pss_cons (ps_for PassesOwn.never (by rfl) (pi_range1 (by rfl) mr (pa_cons (pe_callB (call_max2 (by rfl)) (by rfl) mm boot_max (pa_cons pe_int
          (pa_cons (pe_callB call_len (by rfl) ml PySem.boot_len (pa_cons (pe_slice sl_list (pv 0) (po_some pe_int) (po_some pe_int)) pa_nil)) pa_nil))) pa_nil)) (pg_name (i := 1) scLaw.nd rfl (.inl rfl))
        (pss_cons (ps_set (i := 2) scLaw.nd rfl (.inr rfl) (pe_call GF hr1 (by rfl) gF FF.kp bF .nil pass0 (pa_cons (pv 0) (pa_cons (pe_op op_add pe_int (pv 1)) pa_nil))))
        (pss_cons (ps_set (i := 3) scLaw.nd rfl (.inl rfl) (pe_op op_add pe_int (pe_call GT hr1 (by rfl) gT FT.kp bT .nil pass0 (pa_cons (pv 2) (pa_cons
          (pe_ix ix_list (pe_lst (pa_cons pe_int (pa_cons pe_int pa_nil))) (pe_call GT hr1 (by rfl) gT FT.kp bT .nil pass0 (pa_cons (pv 2) (pa_cons pe_int pa_nil))) (fun _ _ => rfl)) pa_nil)))))
        (C8.pss_cut (ps_set (i := 4) scLaw.nd rfl (.inr rfl) (pe_call GN hr2 (by rfl) gN FN.kp bN .nil pass0 (pa_cons (pv 2) (pa_cons (pv 3) pa_nil))))
        (C8.pss_cut (ps_setLc (i := 5) (own := [("_law_j", 8)]) (g := gName 8) (tt := tYes) (by rfl) scLaw.nd rfl rfl (sw_true rfl rfl rfl (by decide +kernel))
          (pi_range1 (by rfl) mr (pa_cons (pv 3) pa_nil)) (blkOk_by (N := NL) (sc := defScope sLaw) (by decide +kernel))
          (fun _ _ _ _ _ => pg_name (i := 8) scLaw.nd rfl (Or.inl rfl)) (fun _ _ _ _ _ => pts_nil)
          (fun _ _ _ _ _ => pe_call GT hr1 (by rfl) gT FT.kp bT .nil pass0 (pa_cons (pv 2) (pa_cons (pv 4) pa_nil))))
        (pss_cons (ps_asg (pe_call GO hr2 (by rfl) gO FO.kp bO .nil pass0 (pa_cons (pv 2) (pa_cons (pv 5) (pa_cons (pv 4) pa_nil)))) (pg_tup (by rfl) (pgs_cons (pg_name (i := 6) scLaw.nd rfl (.inl rfl)) (pgs_cons (pg_name (i := 7) scLaw.nd rfl (.inl rfl)) pgs_nil))))
        (pss_one (ps_if (pt_not (pt_val (pe_call GR hr (by rfl) gR FR.kp bR .nil pass0 (pa_cons (pv 5) (pa_cons (pv 6) (pa_cons (pv 7) (pa_cons (pe_call GT hr1 (by rfl) gT FT.kp bT .nil pass0 (pa_cons (pv 2) (pa_cons (pv 4) pa_nil))) (pa_cons (pv 4) pa_nil))))))))
          (pss_one (ps_ret pe_bl)) pss_nil))))))))
      (pss_one (ps_ret pe_bl)), ?_⟩
    refine ⟨_, rfl, _, rfl, _, rfl, a, _, rfl, hS, fun C nC => ?_⟩
    have lc := cutV_length (ns.map V.int) (some 1) (some 9)
    rw [len_map] at lc
    have s0 : Same H (upd H C (.lst (cutV (ns.map V.int) (some 1) (some 9)))) := same_new nC
    refine ⟨.ref C, (cutV (ns.map V.int) (some 1) (some 9)).length, rfl, .inl ⟨_, SqL.of upd_same, rfl⟩, _, _, rfl, ?_⟩
    have hmx : 1 ≤ (if ((cutV (ns.map V.int) (some 1) (some 9)).length : Int) > 1 then ((cutV (ns.map V.int) (some 1) (some 9)).length : Int) else 1) ∧ (if ((cutV (ns.map V.int) (some 1) (some 9)).length : Int) > 1 then ((cutV (ns.map V.int) (some 1) (some 9)).length : Int) else 1) ≤ 63 := by
      split <;> omega
    generalize (if ((cutV (ns.map V.int) (some 1) (some 9)).length : Int) > 1 then ((cutV (ns.map V.int) (some 1) (some 9)).length : Int) else 1) = mx at hmx
    refine ⟨mx, rfl, by omega, by omega, ?_⟩
    refine for_range (lo := 0) (fun i σ H' => ∃ y1 y2 y3 y4 y5 y6 y7, σ = [some (.ref a), y1, y2, y3, y4, y5, y6, y7, none] ∧ Same H H') ⟨none, none, none, none, none, none, none, rfl, s0⟩ ?_ ?_
    · rintro i σ H1 hi ⟨y1, y2, y3, y4, y5, y6, y7, rfl, s1⟩
      rw [Int.zero_add]
      -- the feed
      refine ⟨_, rfl, _, rfl, _, _, rfl, rfl, a, ns, 1 + (i : Int), rfl, s1.seq hS, h63, by omega, by omega, fun H2 f a0 b0 s2 nf hF => ?_⟩
      have fH : H f = none := s1.free nf
      -- how many
      refine ⟨_, rfl, (by show 2 ≤ sizeLine; decide), fun L nL => ?_⟩
      have c2 := Cur.refl hF
      have gL := c2.nf nL
      have hF2 : FeedAt (upd H2 L (.lst [.int 4, .int 12])) f a0 b0 := ⟨(upd_ne gL.symm).trans hF.1, hF.2⟩
      refine ⟨_, rfl, f, 2, a0, b0, rfl, by decide, by decide, hF2, fun d a1 b1 d0 d1 k1 => ?_⟩
      have c3 := (c2.laid (o := .lst [.int 4, .int 12]) nL).draw (a := a1) k1
      obtain ⟨z, ez, z0, z1⟩ : ∃ z : Int, atI [V.int 4, V.int 12] d = some (.int z) ∧ 0 < z ∧ z ≤ 12 := by
        obtain rfl | rfl : d = 0 ∨ d = 1 := by omega
        · exact ⟨4, atI_nat (j := 0) rfl, by decide, by decide⟩
        · exact ⟨12, atI_nat (j := 1) rfl, by decide, by decide⟩
      refine ⟨L, _, _, _, rfl, rfl, SqL.of ((upd_ne gL).trans upd_same), ez, f, z, a1, b1, rfl, z0, by omega, ⟨upd_same, k1⟩, fun d2 a2 b2 e0 e1 k2 => ?_⟩
      have c4 := c3.draw (a := a2) k2
      refine ⟨_, _, rfl, rfl, ?_⟩
      -- the field
      refine ⟨fun σ H' => ∃ p : Int, σ = [some (.ref a), some (.int (i : Int)), some (.ref f), some (.int (1 + d2)), some (.int p), y5, y6, y7, none] ∧ Pr p ∧ 1 + d2 ≤ p ∧ Cur H2 H' f, ?_, ?_⟩
      · refine ⟨_, rfl, _, rfl, f, 1 + d2, a2, b2, rfl, by omega, by omega, ⟨upd_same, k2⟩, fun p a3 b3 hp hl k3 => ?_⟩
        exact ⟨p, rfl, hp, hl, c4.draw k3⟩
      rintro σ H3 ⟨p, rfl, hp, hl, c5⟩
      have hlo := hp.lo
      have hhi := hp.hi
      -- the row
      refine ⟨fun σ H' => ∃ (r : Addr) (xs : List Int), σ = [some (.ref a), some (.int (i : Int)), some (.ref f), some (.int (1 + d2)), some (.int p), some (.ref r), y6, y7, none] ∧ Cur H2 H' f ∧ r ≠ f ∧ H' r = some (.lst (xs.map V.int)) ∧ (xs.length : Int) = 1 + d2 ∧ ∀ z ∈ xs, 0 ≤ z ∧ z < p, ?_, ?_⟩
      · refine ⟨_, rfl, 1 + d2, rfl, by omega, by omega, fun M nM => ?_⟩
        have fM := c5.free nM
        have gM := c5.nf nM
        refine lc_range (fun j H' => Cur H2 H' f ∧ ∃ zs : List Int, zs.length = j ∧ H' M = some (.lst (zs.map V.int)) ∧ ∀ z ∈ zs, 0 ≤ z ∧ z < p)
          ⟨c5.laid nM, [], rfl, upd_same, fun z hz => by cases hz⟩ (fun j H' hj hP => ?_) (fun H' hP => ?_)
        · obtain ⟨c, zs, zl, zM, zz⟩ := hP
          obtain ⟨a4, b4, hF4⟩ := c.fd
          refine ⟨rfl, _, rfl, _, rfl, f, p, a4, b4, rfl, by omega, by omega, hF4, fun d a' b' d0 d1 hb' => ?_⟩
          refine ⟨_, (upd_ne gM).trans zM, ?_, (c.draw hb').put fM gM, zs ++ [d], ?_, ?_, fun z hz => ?_⟩
          · rw [len_map]
            exact small1000 (by omega)
          · rw [List.length_append, List.length_singleton, zl]
          · rw [upd_same, List.map_append]
            rfl
          · rcases List.mem_append.mp hz with q1 | q1
            · exact zz z q1
            · rw [List.mem_singleton.mp q1]
              exact ⟨d0, d1⟩
        · obtain ⟨c, zs, zl, zM, zz⟩ := hP
          exact ⟨M, zs, rfl, c, gM, zM, by omega, zz⟩
      rintro σ H4 ⟨r, xs, rfl, c6, rf, eR, xl, xr⟩
      obtain ⟨a5, b5, hF5⟩ := c6.fd
      -- the other row
      refine ⟨_, rfl, _, rfl, _, rfl, f, r, xs, p, a5, b5, rfl, hF5, eR, rf, hp, by omega, by omega, by omega, xr, fun H5 T o ys mv c7 eT of eO yl fw hmv => ?_⟩
      refine ⟨T, _, rfl, SqT.of eT, rfl, _, _, rfl, _, _, rfl, rfl, ?_⟩
      obtain ⟨a6, b6, hF6⟩ := c7.fd
      have eR5 := c7.kp _ _ rf eR
      -- is it right
      refine ⟨_, rfl, _, rfl, _, rfl, _, rfl, _, rfl, f, p, a6, b6, rfl, by omega, by omega, hF6, fun c a8 b8 q0 q1 k8 => ?_⟩
      refine ⟨_, rfl, r, o, xs, ys, mv, c, p, rfl, SqL.of ((upd_ne rf).trans eR5), SqL.of ((upd_ne of).trans eO), hp, by omega, by omega, by omega, yl, q0, q1, fw, ?_, fun H6 s6 => ?_⟩
      · rcases hmv with e | ⟨m, e, mf, eM⟩
        · exact .inl e
        · exact .inr ⟨m, e, SqL.of ((upd_ne mf).trans eM)⟩
      · refine ⟨_, rfl, ?_⟩
        refine ite2 (fun e => absurd e (by decide)) (fun _ => ?_)
        refine ⟨_, _, _, _, _, _, _, rfl, fun b u e => ?_⟩
        have nb : b ≠ f := ne_of_none e fH
        exact s6 _ _ ((upd_ne nb).trans (c7.kp _ _ nb (c6.kp _ _ nb (s2 _ _ (s1 _ _ e)))))
    · rintro σ H1 ⟨y1, y2, y3, y4, y5, y6, y7, rfl, s1⟩
      exact q _
end
end Ask
namespace Ask
open PySem PySem.Spec PyProof.Rows L2
/-! ### what the top has written -/
theorem all_mk {l : PySem.W.OpenLaw} {w : World} {K : PySem.W.Frag} {h : Heap} {mg : Str → Option Value} {fa f1 f2 f3 f4 f5 f6 f7 f8 f9 f10 : Addr} (X : K.In h) (G : h.Ns mainGlobals mg) (hfa : mg "law" = some (.ref fa))
    {od1 an1 od2 an2 od3 an3 od4 an4 od5 an5 od6 an6 od7 an7 od8 an8 od9 an9 od10 an10 : Option Addr} {sl1 sl2 sl3 sl4 sl5 sl6 sl7 sl8 sl9 sl10 : Array (Option Value)} {oc1 kV1 dc1 pm1 cd1 ct1 oc2 kV2 dc2 pm2 cd2 ct2 oc3 kV3 dc3 pm3 cd3 ct3 oc4 kV4 dc4 pm4 cd4 ct4 oc5 kV5 dc5 pm5 cd5 ct5 oc6 kV6 dc6 pm6 cd6 ct6 oc7 kV7 dc7 pm7 cd7 ct7 oc8 kV8 dc8 pm8 cd8 ct8 oc9 kV9 dc9 pm9 cd9 ct9 oc10 kV10 dc10 pm10 cd10 ct10 : Value}
    (a1 : PySem.W.nsIn K mainGlobals "inverse_of" = some (some (.ref f1)))
    (l1 : K.lookup f1 = some ⟨oc1, od1, .func (PySem.W.fnOf "inverse_of" "inverse_of" (defArgs sInv) (defBody sInv) (defScope sInv) .none kV1 dc1 pm1 an1 cd1 ct1), sl1⟩)
    (c1 : PySem.W.codeIn K cd1 "inverse_of" = true) (k1 : PySem.W.keepIn K (.ref f1) = true)
    (a2 : PySem.W.nsIn K mainGlobals "value_at" = some (some (.ref f2)))
    (l2 : K.lookup f2 = some ⟨oc2, od2, .func (PySem.W.fnOf "value_at" "value_at" (defArgs sVal) (defBody sVal) (defScope sVal) .none kV2 dc2 pm2 an2 cd2 ct2), sl2⟩)
    (c2 : PySem.W.codeIn K cd2 "value_at" = true) (k2 : PySem.W.keepIn K (.ref f2) = true)
    (a3 : PySem.W.nsIn K mainGlobals "_law_feed" = some (some (.ref f3)))
    (l3 : K.lookup f3 = some ⟨oc3, od3, .func (PySem.W.fnOf "_law_feed" "_law_feed" (defArgs sFeed) (defBody sFeed) (defScope sFeed) .none kV3 dc3 pm3 an3 cd3 ct3), sl3⟩)
    (c3 : PySem.W.codeIn K cd3 "_law_feed" = true) (k3 : PySem.W.keepIn K (.ref f3) = true)
    (a4 : PySem.W.nsIn K mainGlobals "_law_take" = some (some (.ref f4)))
    (l4 : K.lookup f4 = some ⟨oc4, od4, .func (PySem.W.fnOf "_law_take" "_law_take" (defArgs sTake) (defBody sTake) (defScope sTake) .none kV4 dc4 pm4 an4 cd4 ct4), sl4⟩)
    (c4 : PySem.W.codeIn K cd4 "_law_take" = true) (k4 : PySem.W.keepIn K (.ref f4) = true)
    (a5 : PySem.W.nsIn K mainGlobals "_law_is_prime" = some (some (.ref f5)))
    (l5 : K.lookup f5 = some ⟨oc5, od5, .func (PySem.W.fnOf "_law_is_prime" "_law_is_prime" (defArgs sIsP) (defBody sIsP) (defScope sIsP) .none kV5 dc5 pm5 an5 cd5 ct5), sl5⟩)
    (c5 : PySem.W.codeIn K cd5 "_law_is_prime" = true) (k5 : PySem.W.keepIn K (.ref f5) = true)
    (a6 : PySem.W.nsIn K mainGlobals "_law_prime" = some (some (.ref f6)))
    (l6 : K.lookup f6 = some ⟨oc6, od6, .func (PySem.W.fnOf "_law_prime" "_law_prime" (defArgs sPrime) (defBody sPrime) (defScope sPrime) .none kV6 dc6 pm6 an6 cd6 ct6), sl6⟩)
    (c6 : PySem.W.codeIn K cd6 "_law_prime" = true) (k6 : PySem.W.keepIn K (.ref f6) = true)
    (a7 : PySem.W.nsIn K mainGlobals "_law_product" = some (some (.ref f7)))
    (l7 : K.lookup f7 = some ⟨oc7, od7, .func (PySem.W.fnOf "_law_product" "_law_product" (defArgs sProd) (defBody sProd) (defScope sProd) .none kV7 dc7 pm7 an7 cd7 ct7), sl7⟩)
    (c7 : PySem.W.codeIn K cd7 "_law_product" = true) (k7 : PySem.W.keepIn K (.ref f7) = true)
    (a8 : PySem.W.nsIn K mainGlobals "_law_other" = some (some (.ref f8)))
    (l8 : K.lookup f8 = some ⟨oc8, od8, .func (PySem.W.fnOf "_law_other" "_law_other" (defArgs sOther) (defBody sOther) (defScope sOther) .none kV8 dc8 pm8 an8 cd8 ct8), sl8⟩)
    (c8 : PySem.W.codeIn K cd8 "_law_other" = true) (k8 : PySem.W.keepIn K (.ref f8) = true)
    (a9 : PySem.W.nsIn K mainGlobals "_law_right" = some (some (.ref f9)))
    (l9 : K.lookup f9 = some ⟨oc9, od9, .func (PySem.W.fnOf "_law_right" "_law_right" (defArgs sRight) (defBody sRight) (defScope sRight) .none kV9 dc9 pm9 an9 cd9 ct9), sl9⟩)
    (c9 : PySem.W.codeIn K cd9 "_law_right" = true) (k9 : PySem.W.keepIn K (.ref f9) = true)
    (a10 : PySem.W.nsIn K mainGlobals "law" = some (some (.ref f10)))
    (l10 : K.lookup f10 = some ⟨oc10, od10, .func (PySem.W.fnOf "law" "law" (defArgs sLaw) (defBody sLaw) (defScope sLaw) .none kV10 dc10 pm10 an10 cd10 ct10), sl10⟩)
    (c10 : PySem.W.codeIn K cd10 "law" = true) (k10 : PySem.W.keepIn K (.ref f10) = true)
    (z1 : PySem.W.nsIn K mainGlobals "len" = some none)
    (z2 : PySem.W.nsIn K mainGlobals "range" = some none)
    (z3 : PySem.W.nsIn K mainGlobals "max" = some none)
    (z4 : PySem.W.nsIn K mainGlobals "int" = some none)
    (z5 : PySem.W.nsIn K mainGlobals "list" = some none)
    (z6 : PySem.W.nsIn K mainGlobals "sorted" = some none) :
    ∃ fd : FuncData, (∀ (s : Shared) (v : Value), BindsTo s fd ⟨[v], []⟩ [("_law_script", v)]) ∧ ∀ base : Heap, K.In base → base.Ns mainGlobals mg → FnOk l.prog w K mg base CX0 4 fa fd ["_law_script"] (spLaw K) := by
  have e := hfa.symm.trans (PySem.W.mg_of X G a10)
  cases e
  have F1 := fun_mk (st := sInv) l1 c1 k1
  have F2 := fun_mk (st := sVal) l2 c2 k2
  have F3 := fun_mk (st := sFeed) l3 c3 k3
  have F4 := fun_mk (st := sTake) l4 c4 k4
  have F5 := fun_mk (st := sIsP) l5 c5 k5
  have F6 := fun_mk (st := sPrime) l6 c6 k6
  have F7 := fun_mk (st := sProd) l7 c7 k7
  have F8 := fun_mk (st := sOther) l8 c8 k8
  have F9 := fun_mk (st := sRight) l9 c9 k9
  have F10 := fun_mk (st := sLaw) l10 c10 k10
  have b1 := F1.binds (ps := ["a", "p"]) fun _ _ _ _ _ _ us hl => match us, hl with | [_, _], _ => rfl
  have b2 := F2.binds (ps := ["values", "r", "p"]) fun _ _ _ _ _ _ us hl => match us, hl with | [_, _, _], _ => rfl
  have b3 := F3.binds (ps := ["_law_script", "_law_k"]) fun _ _ _ _ _ _ us hl => match us, hl with | [_, _], _ => rfl
  have b4 := F4.binds (ps := ["_law_feed_here", "_law_many"]) fun _ _ _ _ _ _ us hl => match us, hl with | [_, _], _ => rfl
  have b5 := F5.binds (ps := ["_law_number"]) fun _ _ _ _ _ _ us hl => match us, hl with | [_], _ => rfl
  have b6 := F6.binds (ps := ["_law_feed_here", "_law_least"]) fun _ _ _ _ _ _ us hl => match us, hl with | [_, _], _ => rfl
  have b7 := F7.binds (ps := ["_law_roots", "_law_x", "_law_share", "_law_p"]) fun _ _ _ _ _ _ us hl => match us, hl with | [_, _, _, _], _ => rfl
  have b8 := F8.binds (ps := ["_law_feed_here", "_law_row", "_law_p"]) fun _ _ _ _ _ _ us hl => match us, hl with | [_, _, _], _ => rfl
  have b9 := F9.binds (ps := ["_law_row", "_law_other_here", "_law_meets", "_law_share", "_law_p"]) fun _ _ _ _ _ _ us hl => match us, hl with | [_, _, _, _, _], _ => rfl
  exact ⟨PySem.W.fnOf "law" "law" (defArgs sLaw) (defBody sLaw) (defScope sLaw) .none kV10 dc10 pm10 an10 cd10 ct10, fun s v => .of_eq rfl, fun base _ _ => ok_law F10 F1 b1 (PySem.W.mg_of X G a1) F2 b2 (PySem.W.mg_of X G a2) F3 b3 (PySem.W.mg_of X G a3) F4 b4 (PySem.W.mg_of X G a4) F5 b5 (PySem.W.mg_of X G a5) F6 b6 (PySem.W.mg_of X G a6) F7 b7 (PySem.W.mg_of X G a7) F8 b8 (PySem.W.mg_of X G a8) F9 b9 (PySem.W.mg_of X G a9) (PySem.W.mg_none_of X G z1) (PySem.W.mg_none_of X G z2) (PySem.W.mg_none_of X G z3) (PySem.W.mg_none_of X G z4) (PySem.W.mg_none_of X G z5) (PySem.W.mg_none_of X G z6)⟩
end Ask
open PySem PySem.W PyProof.Rows
set_option maxRecDepth 100000 in
set_option maxHeartbeats 0 in
theorem PySem.Challenge.cw_asktally_k19_whole_unlike_rows_part_holds : PySem.Challenge.rw_asktally_k19_whole_unlike_rows_part.Holds := by
  w_on; o_law; k_head; (case hw => w_witness2)
  k_fill
  refine L2.walk_of (l := PySem.Challenge.rw_asktally_k19_whole_unlike_rows_part) (n := 63) (k := 4) (x := "_law_script") (CX := fun _ => L2.CX0) (sp := fun w => Ask.spLaw _) rfl (by decide) rfl ⟨rfl, by decide, by decide⟩ (fun w h Y => PySem.W.kIn_of Y) ?F (fun _ _ a ns hl _ hS => ⟨a, ns, rfl, hS, hl, fun _ => rfl⟩) (fun _ _ _ _ _ h => h)
  case F =>
    intro w mg fa h KX G hmg
    refine' Ask.all_mk KX G hmg ?a1 ?l1 ?c1 ?k1 ?a2 ?l2 ?c2 ?k2 ?a3 ?l3 ?c3 ?k3 ?a4 ?l4 ?c4 ?k4 ?a5 ?l5 ?c5 ?k5 ?a6 ?l6 ?c6 ?k6 ?a7 ?l7 ?c7 ?k7 ?a8 ?l8 ?c8 ?k8 ?a9 ?l9 ?c9 ?k9 ?a10 ?l10 ?c10 ?k10 ?z1 ?z2 ?z3 ?z4 ?z5 ?z6
    (case a1 => k_is)
    (case l1 => k_is)
    (case c1 => k_is)
    (case k1 => k_is)
    (case a2 => k_is)
    (case l2 => k_is)
    (case c2 => k_is)
    (case k2 => k_is)
    (case a3 => k_is)
    (case l3 => k_is)
    (case c3 => k_is)
    (case k3 => k_is)
    (case a4 => k_is)
    (case l4 => k_is)
    (case c4 => k_is)
    (case k4 => k_is)
    (case a5 => k_is)
    (case l5 => k_is)
    (case c5 => k_is)
    (case k5 => k_is)
    (case a6 => k_is)
    (case l6 => k_is)
    (case c6 => k_is)
    (case k6 => k_is)
    (case a7 => k_is)
    (case l7 => k_is)
    (case c7 => k_is)
    (case k7 => k_is)
    (case a8 => k_is)
    (case l8 => k_is)
    (case c8 => k_is)
    (case k8 => k_is)
    (case a9 => k_is)
    (case l9 => k_is)
    (case c9 => k_is)
    (case k9 => k_is)
    (case a10 => k_is)
    (case l10 => k_is)
    (case c10 => k_is)
    (case k10 => k_is)
    (case z1 => k_is)
    (case z2 => k_is)
    (case z3 => k_is)
    (case z4 => k_is)
    (case z5 => k_is)
    (case z6 => k_is)
