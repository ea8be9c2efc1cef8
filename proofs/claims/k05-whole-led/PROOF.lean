import PyProof.Rows.All
import HandS.ForMost
import HandS.IsInst
import HandS.Zip
import HandS.Exc
import HandS.ExcOwn
import HandS.ExcIs
import HandS.TryOnly
import HandS.WordsExc
import HandS.Dict
import HandS.WordsDict
import HandS.Flow
import HandS.Iter
import HandS.TupAny
import PySem.Challenge.RW_bothwheels_k05_whole_led_and_put_togethe
/-! Bothwheels: the plain mathematics of wheels, over lists of ints. -/
namespace BW

/-- where the wheel w leads the number z -/
def led (w : List Int) (z : Int) : Int := w.getD (z % (w.length : Int)).toNat 0 + z / (w.length : Int) * (w.length : Int)
def rng (N : Nat) : List Int := (List.range N).map fun (i : Nat) => (i : Int)
def shf (N : Nat) (m : Int) : List Int := (List.range N).map fun (i : Nat) => m + (i : Int)
/-- w behind u -/
def beh (w u : List Int) : List Int := u.map (led w)
def it (f : Int → Int) : Nat → Int → Int
  | 0, z => z
  | k + 1, z => f (it f k z)
def pw (w : List Int) (k : Nat) : List Int := (rng w.length).map (it (led w) k)

theorem rng_length (N : Nat) : (rng N).length = N := by simp [rng]
theorem shf_length (N : Nat) (m : Int) : (shf N m).length = N := by simp [shf]
theorem beh_length (w u : List Int) : (beh w u).length = u.length := by simp [beh]
theorem pw_length (w : List Int) (k : Nat) : (pw w k).length = w.length := by simp [pw, rng]
theorem rng_get {N i : Nat} (h : i < N) : (rng N)[i]? = some (i : Int) := by simp [rng, h]
theorem shf_zero (N : Nat) : shf N 0 = rng N := by simp [shf, rng]

theorem getD_map {α β : Type} (f : α → β) (l : List α) (i : Nat) (a : α) (b : β) (h : i < l.length) : (l.map f).getD i b = f (l.getD i a) := by
  rw [List.getD_eq_getElem?_getD, List.getD_eq_getElem?_getD, List.getElem?_map, List.getElem?_eq_getElem h]
  rfl
theorem mod_lt {w : List Int} (hw : w ≠ []) (z : Int) : 0 ≤ z % (w.length : Int) ∧ z % (w.length : Int) < w.length ∧ (z % (w.length : Int)).toNat < w.length := by
  have h : 0 < w.length := List.length_pos_iff.mpr hw
  have h1 : 0 ≤ z % (w.length : Int) := Int.emod_nonneg _ (by omega)
  have h2 : z % (w.length : Int) < w.length := Int.emod_lt_of_pos _ (by omega)
  omega
/-- a number and k rounds more -/
theorem led_add {w : List Int} (hw : w ≠ []) (z k : Int) : led w (z + k * (w.length : Int)) = led w z + k * (w.length : Int) := by
  have h : 0 < w.length := List.length_pos_iff.mpr hw
  unfold led
  rw [Int.add_mul_emod_self_right, Int.add_mul_ediv_right _ _ (by omega), Int.add_mul]
  omega
theorem led_small {w : List Int} {i : Nat} (h : i < w.length) : led w (i : Int) = w.getD i 0 := by
  unfold led
  rw [Int.emod_eq_of_lt (by omega) (by omega), Int.ediv_eq_zero_of_lt (by omega) (by omega)]
  simp
theorem led_split {w : List Int} (hw : w ≠ []) (z : Int) : led w z = led w (z % (w.length : Int)) + z / (w.length : Int) * (w.length : Int) := by
  rw [← led_add hw]
  congr 1
  have := Int.emod_add_mul_ediv z (w.length : Int)
  have e := Int.mul_comm (w.length : Int) (z / (w.length : Int))
  omega
theorem map_led_rng (w : List Int) : (rng w.length).map (led w) = w := by
  apply List.ext_getElem?
  intro i
  rw [List.getElem?_map]
  by_cases h : i < w.length
  · rw [rng_get h]
    show some (led w (i : Int)) = _
    rw [led_small h, List.getElem?_eq_getElem h, List.getD_eq_getElem?_getD, List.getElem?_eq_getElem h]
    rfl
  · rw [List.getElem?_eq_none (by rw [rng_length]; omega), List.getElem?_eq_none (by omega)]
    rfl
/-- a list of the values of f on the ring, f told on: it leads as f -/
theorem led_map {N : Nat} (hN : 0 < N) {f : Int → Int} (hf : ∀ z k, f (z + k * (N : Int)) = f z + k * (N : Int)) (z : Int) : led ((rng N).map f) z = f z := by
  have hl : ((rng N).map f).length = N := by simp [rng]
  have hne : (rng N).map f ≠ [] := by
    intro e
    rw [e] at hl
    simp at hl
    omega
  have hm := mod_lt hne z
  rw [hl] at hm
  unfold led
  rw [hl, getD_map f (rng N) _ 0 0 (by rw [rng_length]; exact hm.2.2), List.getD_eq_getElem?_getD, rng_get hm.2.2]
  show f (((z % (N : Int)).toNat : Nat) : Int) + z / (N : Int) * (N : Int) = f z
  rw [Int.toNat_of_nonneg hm.1, ← hf]
  congr 1
  have := Int.emod_add_mul_ediv z (N : Int)
  have e := Int.mul_comm (N : Int) (z / (N : Int))
  omega
theorem it_per {N : Nat} {f : Int → Int} (hf : ∀ z k, f (z + k * (N : Int)) = f z + k * (N : Int)) : ∀ (a : Nat) (z k : Int), it f a (z + k * (N : Int)) = it f a z + k * (N : Int)
  | 0, _, _ => rfl
  | a + 1, z, k => by
    show f (it f a (z + k * (N : Int))) = f (it f a z) + k * (N : Int)
    rw [it_per hf a, hf]
theorem it_add (f : Int → Int) : ∀ (a b : Nat) (z : Int), it f (a + b) z = it f a (it f b z)
  | 0, b, z => by rw [Nat.zero_add]; rfl
  | a + 1, b, z => by
    rw [Nat.succ_add]
    show f (it f (a + b) z) = f (it f a (it f b z))
    rw [it_add f a b z]
theorem led_pw {w : List Int} (hw : w ≠ []) (a : Nat) (z : Int) : led (pw w a) z = it (led w) a z :=
  led_map (List.length_pos_iff.mpr hw) (it_per (led_add hw) a) z
theorem pw_zero (w : List Int) : pw w 0 = shf w.length 0 := by
  rw [shf_zero]
  unfold pw
  have e : it (led w) 0 = id := rfl
  rw [e, List.map_id]
theorem pw_one (w : List Int) : pw w 1 = w := by
  unfold pw
  have e : it (led w) 1 = led w := rfl
  rw [e, map_led_rng]
theorem beh_pw {w : List Int} (hw : w ≠ []) (a b : Nat) : beh (pw w a) (pw w b) = pw w (a + b) := by
  unfold beh
  show List.map _ (List.map _ _) = List.map _ _
  rw [List.map_map]
  apply List.map_congr_left
  intro z _
  show led (pw w a) (it (led w) b z) = it (led w) (a + b) z
  rw [led_pw hw, it_add]
theorem pw_succ {w : List Int} (hw : w ≠ []) (a : Nat) : (pw w a).map (led w) = pw w (a + 1) := by
  unfold pw
  rw [List.map_map]
  rfl
theorem pw_ne {w : List Int} (hw : w ≠ []) (a : Nat) : pw w a ≠ [] := by
  intro e
  have := pw_length w a
  rw [e] at this
  have := List.length_pos_iff.mpr hw
  simp at *
  omega

/-! ### WHEELS -/
/-- as the program tests it -/
def isWb (w : List Int) : Bool := !w.isEmpty && (List.zipWith (fun a b => decide (a ≤ b)) w (w.drop 1)).all id && decide (w.getD (w.length - 1) 0 ≤ w.getD 0 0 + (w.length : Int))
structure IsW (w : List Int) : Prop where
  ne : w ≠ []
  up : ∀ i, i + 1 < w.length → w.getD i 0 ≤ w.getD (i + 1) 0
  last : w.getD (w.length - 1) 0 ≤ w.getD 0 0 + (w.length : Int)
theorem zip_all (w : List Int) : (List.zipWith (fun a b => decide (a ≤ b)) w (w.drop 1)).all id = true ↔ ∀ i, i + 1 < w.length → w.getD i 0 ≤ w.getD (i + 1) 0 := by
  rw [List.all_eq_true]
  constructor
  · intro h i hi
    have h0 : i < w.length := by omega
    have e : (List.zipWith (fun a b => decide (a ≤ b)) w (w.drop 1))[i]? = some (decide (w[i] ≤ w[i + 1])) := by
      rw [List.getElem?_zipWith, List.getElem?_eq_getElem h0, List.getElem?_drop, Nat.add_comm 1 i, List.getElem?_eq_getElem hi]
    have m := h _ (List.mem_of_getElem? e)
    rw [List.getD_eq_getElem?_getD, List.getD_eq_getElem?_getD, List.getElem?_eq_getElem h0, List.getElem?_eq_getElem hi]
    exact of_decide_eq_true m
  · intro h b hb
    obtain ⟨i, hi⟩ := List.mem_iff_getElem?.mp hb
    rw [List.getElem?_zipWith, List.getElem?_drop, Nat.add_comm 1 i] at hi
    by_cases h1 : i + 1 < w.length
    · have h0 : i < w.length := by omega
      have q := h i h1
      rw [List.getD_eq_getElem?_getD, List.getD_eq_getElem?_getD, List.getElem?_eq_getElem h0, List.getElem?_eq_getElem h1] at q
      rw [List.getElem?_eq_getElem h0, List.getElem?_eq_getElem h1] at hi
      have e : decide (w[i] ≤ w[i + 1]) = b := Option.some.inj hi
      rw [← e]
      exact decide_eq_true q
    · rw [List.getElem?_eq_none (show w.length ≤ i + 1 by omega)] at hi
      split at hi
      · rename_i h1 h2
        cases h2
      · cases hi
theorem isWb_iff (w : List Int) : isWb w = true ↔ IsW w := by
  unfold isWb
  rw [Bool.and_eq_true, Bool.and_eq_true, zip_all]
  constructor
  · rintro ⟨⟨h1, h2⟩, h3⟩
    refine ⟨?_, h2, of_decide_eq_true h3⟩
    intro e
    rw [e] at h1
    simp at h1
  · rintro ⟨h1, h2, h3⟩
    refine ⟨⟨?_, h2⟩, decide_eq_true h3⟩
    cases w with
    | nil => exact absurd rfl h1
    | cons a r => rfl
theorem IsW.mono {w : List Int} (h : IsW w) : ∀ (d i : Nat), i + d < w.length → w.getD i 0 ≤ w.getD (i + d) 0
  | 0, i, _ => Int.le_refl _
  | d + 1, i, hi => Int.le_trans (h.mono d i (by omega)) (h.up (i + d) hi)
theorem IsW.le {w : List Int} (h : IsW w) {i j : Nat} (hij : i ≤ j) (hj : j < w.length) : w.getD i 0 ≤ w.getD j 0 := by
  have := h.mono (j - i) i (by omega)
  rw [show i + (j - i) = j by omega] at this
  exact this
/-- none is led beyond one that is not beyond -/
theorem IsW.led_le {w : List Int} (h : IsW w) {z y : Int} (hzy : z ≤ y) : led w z ≤ led w y := by
  have hl : 0 < w.length := List.length_pos_iff.mpr h.ne
  obtain ⟨a1, a2, a3⟩ := mod_lt h.ne z
  obtain ⟨b1, b2, b3⟩ := mod_lt h.ne y
  have ez := Int.emod_add_mul_ediv z (w.length : Int)
  have ey := Int.emod_add_mul_ediv y (w.length : Int)
  have hq : z / (w.length : Int) ≤ y / (w.length : Int) := Int.ediv_le_ediv (by omega) hzy
  unfold led
  generalize hi : (z % (w.length : Int)).toNat = i at *
  generalize hj : (y % (w.length : Int)).toNat = j at *
  by_cases e : z / (w.length : Int) = y / (w.length : Int)
  · rw [e] at ez
    rw [e]
    have : i ≤ j := by omega
    have := h.le this b3
    omega
  · have e1 : z / (w.length : Int) + 1 ≤ y / (w.length : Int) := by omega
    have m : (z / (w.length : Int) + 1) * (w.length : Int) ≤ y / (w.length : Int) * (w.length : Int) := Int.mul_le_mul_of_nonneg_right e1 (by omega)
    rw [Int.add_mul, Int.one_mul] at m
    have h1 := h.le (show i ≤ w.length - 1 by omega) (by omega)
    have h2 := h.le (show 0 ≤ j by omega) b3
    have h3 := h.last
    omega
theorem getD_map0 {f : Int → Int} {l : List Int} {i : Nat} (h : i < l.length) : (l.map f).getD i 0 = f (l.getD i 0) := getD_map f l i 0 0 h
theorem beh_isW {w u : List Int} (hw : IsW w) (hu : IsW u) (e : w.length = u.length) : IsW (beh w u) := by
  have hl : 0 < u.length := List.length_pos_iff.mpr hu.ne
  refine ⟨?_, fun i hi => ?_, ?_⟩
  · intro z
    have := beh_length w u
    rw [z] at this
    simp at this
    omega
  · rw [beh_length] at hi
    unfold beh
    rw [getD_map0 (by omega), getD_map0 hi]
    exact hw.led_le (hu.up i hi)
  · rw [beh_length]
    unfold beh
    rw [getD_map0 (by omega), getD_map0 hl]
    have h1 := hw.led_le hu.last
    have h2 := led_add hw.ne (u.getD 0 0) 1
    rw [Int.one_mul, e] at h2
    omega
theorem shf_getD {N : Nat} {m : Int} {i : Nat} (h : i < N) : (shf N m).getD i 0 = m + (i : Int) := by
  rw [List.getD_eq_getElem?_getD]
  simp [shf, h]
theorem shf_isW {N : Nat} (hN : 0 < N) (m : Int) : IsW (shf N m) := by
  refine ⟨?_, fun i hi => ?_, ?_⟩
  · intro z
    have := shf_length N m
    rw [z] at this
    simp at this
    omega
  · rw [shf_length] at hi
    rw [shf_getD (by omega), shf_getD hi]
    omega
  · rw [shf_length, shf_getD (by omega), shf_getD hN]
    omega
theorem pw_isW {w : List Int} (h : IsW w) : ∀ a, IsW (pw w a)
  | 0 => by
    rw [pw_zero]
    exact shf_isW (List.length_pos_iff.mpr h.ne) 0
  | a + 1 => by
    rw [← pw_succ h.ne]
    exact beh_isW h (pw_isW h a) (pw_length w a).symm

/-! ### a TRAIN put together -/
/-- the last one first -/
def putIn : List (List Int) → List Int
  | [] => []
  | [w] => w
  | w :: r => beh w (putIn r)
/-- number by number -/
def ledAll : List (List Int) → Int → Int
  | [], z => z
  | w :: r, z => led w (ledAll r z)
def putL (N : Nat) (ws : List (List Int)) : List Int := (rng N).map (ledAll ws)
theorem putIn_eq {N : Nat} : ∀ {ws : List (List Int)}, ws ≠ [] → (∀ w ∈ ws, w.length = N) → putIn ws = putL N ws
  | [], h, _ => absurd rfl h
  | [w], _, hl => by
    have e := hl w (by simp)
    show w = (rng N).map (led w)
    rw [← e, map_led_rng]
  | w :: x :: r, _, hl => by
    have ih := putIn_eq (N := N) (ws := x :: r) (by simp) fun u hu => hl u (by simp at hu ⊢; right; exact hu)
    show beh w (putIn (x :: r)) = (rng N).map (ledAll (w :: x :: r))
    rw [ih]
    unfold beh putL
    rw [List.map_map]
    rfl
theorem putIn_isW {N : Nat} : ∀ {ws : List (List Int)}, ws ≠ [] → (∀ w ∈ ws, IsW w ∧ w.length = N) → IsW (putIn ws) ∧ (putIn ws).length = N
  | [], h, _ => absurd rfl h
  | [w], _, hl => hl w (by simp)
  | w :: x :: r, _, hl => by
    have ih := putIn_isW (N := N) (ws := x :: r) (by simp) fun u hu => hl u (by simp at hu ⊢; right; exact hu)
    obtain ⟨h1, h2⟩ := hl w (by simp)
    exact ⟨beh_isW h1 ih.1 (by rw [h2, ih.2]), by show (beh w _).length = N; rw [beh_length]; exact ih.2⟩
theorem putIn_fold : ∀ (r : List (List Int)) (w : List Int), r.foldl (fun found own => beh own found) w = putIn (r.reverse ++ [w])
  | [], w => rfl
  | x :: r, w => by
    have step : ∀ (l : List (List Int)) (a b : List Int), putIn (l ++ [a, b]) = putIn (l ++ [beh a b]) := by
      intro l
      induction l with
      | nil => intro a b; rfl
      | cons c l ih =>
        intro a b
        cases l with
        | nil => rfl
        | cons d l => 
          show beh c (putIn (d :: l ++ [a, b])) = beh c (putIn (d :: l ++ [beh a b]))
          rw [ih]
    show r.foldl (fun found own => beh own found) (beh x w) = _
    rw [putIn_fold r (beh x w), List.reverse_cons, List.append_assoc]
    exact (step r.reverse x w).symm
theorem ledAll_fold : ∀ (ws : List (List Int)) (z : Int), ws.reverse.foldl (fun z own => led own z) z = ledAll ws z
  | [], z => rfl
  | w :: r, z => by
    rw [List.reverse_cons, List.foldl_append, ledAll_fold r z]
    rfl

/-! ### great powers, by places that come again -/
theorem pigeon : ∀ (N : Nat) (l : List Int), l.Nodup → (∀ x ∈ l, 0 ≤ x ∧ x < N) → l.length ≤ N
  | 0, [], _, _ => Nat.le_refl _
  | 0, x :: r, _, h => by
    have := h x (by simp)
    omega
  | N + 1, l, hn, h => by
    by_cases hm : ((N : Nat) : Int) ∈ l
    · have e := List.length_erase_of_mem hm
      have q := pigeon N (l.erase (N : Int)) (hn.erase _) fun x hx => by
        have hx' := (List.Nodup.mem_erase_iff hn).mp hx
        have := h x hx'.2
        have := hx'.1
        omega
      have : 0 < l.length := List.length_pos_of_mem hm
      omega
    · have q := pigeon N l hn fun x hx => by
        have h1 := h x hx
        have : x ≠ (N : Int) := fun e => hm (e ▸ hx)
        omega
      omega
/-- from k on, place k comes again at m, gain further: what holds of all later ones -/
theorem it_again {N : Nat} {f : Int → Int} (hf : ∀ z k, f (z + k * (N : Int)) = f z + k * (N : Int)) {z c : Int} {k m : Nat} (hg : it f m z = it f k z + c * (N : Int)) :
    ∀ (q r : Nat), k ≤ m → it f (k + r + q * (m - k)) z = it f (k + r) z + (q : Int) * (c * (N : Int))
  | 0, r, _ => by simp
  | q + 1, r, hk => by
    have e : k + r + (q + 1) * (m - k) = (r + q * (m - k)) + m := by
      rw [Nat.add_mul]
      omega
    have ih := it_again hf hg q r hk
    rw [e, it_add, hg, it_per hf, ← it_add, show r + q * (m - k) + k = k + r + q * (m - k) by omega, ih]
    rw [show ((q + 1 : Nat) : Int) = (q : Int) + 1 by omega, Int.add_mul, Int.one_mul]
    omega
theorem far_eq {N : Nat} {f : Int → Int} (hf : ∀ z k, f (z + k * (N : Int)) = f z + k * (N : Int)) {z c : Int} {k m b : Nat} (hk : k < m) (hg : it f m z = it f k z + c * (N : Int)) (hb : m < b) :
    it f (k + (b - k) % (m - k)) z + (((b - k) / (m - k) : Nat) : Int) * (c * (N : Int)) = it f b z := by
  rw [← it_again hf hg _ _ (Nat.le_of_lt hk)]
  congr 1
  have e := Nat.mod_add_div (b - k) (m - k)
  rw [Nat.mul_comm] at e
  omega
/-- how far numbers move -/
theorem it_near {f : Int → Int} {B : Int} (hB : ∀ x, -B ≤ f x - x ∧ f x - x ≤ B) : ∀ (a : Nat) (z : Int), -((a : Int) * B) ≤ it f a z - z ∧ it f a z - z ≤ (a : Int) * B
  | 0, z => by
    show -(((0 : Nat) : Int) * B) ≤ z - z ∧ z - z ≤ ((0 : Nat) : Int) * B
    simp
  | a + 1, z => by
    have ih := it_near hB a z
    have h := hB (it f a z)
    have e : ((a + 1 : Nat) : Int) * B = (a : Int) * B + B := by rw [show ((a + 1 : Nat) : Int) = (a : Int) + 1 by omega, Int.add_mul, Int.one_mul]
    show -(((a + 1 : Nat) : Int) * B) ≤ f (it f a z) - z ∧ f (it f a z) - z ≤ ((a + 1 : Nat) : Int) * B
    rw [e]
    omega
theorem led_near {w : List Int} (hw : w ≠ []) {B : Int} (hB : ∀ x ∈ w, -B ≤ x ∧ x ≤ B) (z : Int) : -(B + (w.length : Int)) ≤ led w z - z ∧ led w z - z ≤ B + (w.length : Int) := by
  obtain ⟨a1, a2, a3⟩ := mod_lt hw z
  have ez := Int.emod_add_mul_ediv z (w.length : Int)
  have ec := Int.mul_comm (w.length : Int) (z / (w.length : Int))
  have hx : w.getD (z % (w.length : Int)).toNat 0 ∈ w := by
    rw [List.getD_eq_getElem?_getD, List.getElem?_eq_getElem a3]
    exact List.getElem_mem a3
  have := hB _ hx
  unfold led
  omega

/-! ### drawn WHEELS -/
/-- a rising list, none above c, told on: with its first one kept and all others cut at first + N -/
theorem cut_isW {l : List Int} (hne : l ≠ []) (hup : ∀ i, i + 1 < l.length → l.getD i 0 ≤ l.getD (i + 1) 0) : IsW (l.map fun x => if l.getD 0 0 + (l.length : Int) < x then l.getD 0 0 + (l.length : Int) else x) := by
  have hl : 0 < l.length := List.length_pos_iff.mpr hne
  generalize hc : l.getD 0 0 + (l.length : Int) = c
  refine ⟨by simpa using hne, fun i hi => ?_, ?_⟩
  · rw [List.length_map] at hi
    rw [getD_map0 (by omega), getD_map0 hi]
    have := hup i hi
    split <;> split <;> omega
  · rw [List.length_map, getD_map0 (by omega), getD_map0 hl]
    split <;> split <;> omega
theorem sorted_isW {l : List Int} {a : Int} (hne : l ≠ []) (hs : l.Pairwise (· ≤ ·)) (hb : ∀ x ∈ l, a ≤ x ∧ x ≤ a + (l.length : Int)) : IsW l := by
  have hl : 0 < l.length := List.length_pos_iff.mpr hne
  have mem : ∀ i, i < l.length → l.getD i 0 ∈ l := fun i hi => by
    rw [List.getD_eq_getElem?_getD, List.getElem?_eq_getElem hi]
    exact List.getElem_mem hi
  refine ⟨hne, fun i hi => ?_, ?_⟩
  · rw [List.getD_eq_getElem?_getD, List.getD_eq_getElem?_getD, List.getElem?_eq_getElem hi, List.getElem?_eq_getElem (show i < l.length by omega)]
    exact List.pairwise_iff_getElem.mp hs i (i + 1) (by omega) hi (by omega)
  · have h1 := hb _ (mem (l.length - 1) (by omega))
    have h2 := hb _ (mem 0 hl)
    omega
end BW

set_option Elab.async false
set_option linter.all false
set_option maxRecDepth 100000
set_option maxHeartbeats 4000000
/-! A small logic over HandS: values as data (PyData), the heap out of sight; one mutable list of three ints (the draws) may be carried along. -/
namespace BW
open PySem PySem.Spec PyProof.Rows L2

/-! ### data in a heap of what never changes -/
mutual
def Dt (G : Hp) : PyData → V → Prop
  | .none, v => v = .non
  | .bool b, v => v = .bl b
  | .int i, v => v = .int i
  | .str x, v => v = .str x
  | .list ds, v => ∃ a xs, v = .ref a ∧ G a = some (.lst xs) ∧ DtAll G ds xs
  | .tuple ds, v => ∃ a xs, v = .ref a ∧ G a = some (.tup xs) ∧ DtAll G ds xs
  | .dict _, _ => False
def DtAll (G : Hp) : List PyData → List V → Prop
  | [], vs => vs = []
  | d :: ds, vs => ∃ v r, vs = v :: r ∧ Dt G d v ∧ DtAll G ds r
end
mutual
theorem Dt.mono {G G' : Hp} (s : Same G G') : ∀ (d : PyData) (v : V), Dt G d v → Dt G' d v
  | .none, _, h => by unfold Dt at *; exact h
  | .bool _, _, h => by unfold Dt at *; exact h
  | .int _, _, h => by unfold Dt at *; exact h
  | .str _, _, h => by unfold Dt at *; exact h
  | .list ds, _, h => by
    unfold Dt at *
    obtain ⟨a, xs, e, g, k⟩ := h
    exact ⟨a, xs, e, s _ _ g, DtAll.mono s ds xs k⟩
  | .tuple ds, _, h => by
    unfold Dt at *
    obtain ⟨a, xs, e, g, k⟩ := h
    exact ⟨a, xs, e, s _ _ g, DtAll.mono s ds xs k⟩
  | .dict _, _, h => by unfold Dt at *; exact h
theorem DtAll.mono {G G' : Hp} (s : Same G G') : ∀ (ds : List PyData) (vs : List V), DtAll G ds vs → DtAll G' ds vs
  | [], _, h => by unfold DtAll at *; exact h
  | d :: ds, _, h => by
    unfold DtAll at *
    obtain ⟨v, r, e, k, t⟩ := h
    exact ⟨v, r, e, Dt.mono s d v k, DtAll.mono s ds r t⟩
end
section
variable {G : Hp} {v : V}
theorem dt_int {i : Int} : Dt G (.int i) v ↔ v = .int i := by unfold Dt; exact Iff.rfl
theorem dt_bool {b : Bool} : Dt G (.bool b) v ↔ v = .bl b := by unfold Dt; exact Iff.rfl
theorem dt_str {b : Str} : Dt G (.str b) v ↔ v = .str b := by unfold Dt; exact Iff.rfl
theorem dt_none : Dt G .none v ↔ v = .non := by unfold Dt; exact Iff.rfl
theorem dt_list {ds : List PyData} : Dt G (.list ds) v ↔ ∃ a xs, v = .ref a ∧ G a = some (.lst xs) ∧ DtAll G ds xs := by unfold Dt; exact Iff.rfl
theorem dt_tuple {ds : List PyData} : Dt G (.tuple ds) v ↔ ∃ a xs, v = .ref a ∧ G a = some (.tup xs) ∧ DtAll G ds xs := by unfold Dt; exact Iff.rfl
theorem dta_nil {vs : List V} : DtAll G [] vs ↔ vs = [] := by unfold DtAll; exact Iff.rfl
theorem dta_cons {d : PyData} {ds : List PyData} {vs : List V} : DtAll G (d :: ds) vs ↔ ∃ v r, vs = v :: r ∧ Dt G d v ∧ DtAll G ds r := by conv => lhs; unfold DtAll
theorem DtAll.length : ∀ {ds : List PyData} {vs : List V}, DtAll G ds vs → vs.length = ds.length
  | [], vs, h => by rw [dta_nil.mp h]; rfl
  | d :: ds, vs, h => by
    obtain ⟨v, r, rfl, _, t⟩ := dta_cons.mp h
    show r.length + 1 = ds.length + 1
    rw [DtAll.length t]
theorem DtAll.get : ∀ {ds : List PyData} {vs : List V} {i : Nat} {d : PyData}, DtAll G ds vs → ds[i]? = some d → ∃ v, vs[i]? = some v ∧ Dt G d v
  | [], _, _, _, _, h => by simp at h
  | e :: ds, vs, 0, d, h, q => by
    obtain ⟨v, r, rfl, k, _⟩ := dta_cons.mp h
    have : e = d := by simpa using q
    subst this
    exact ⟨v, rfl, k⟩
  | e :: ds, vs, i + 1, d, h, q => by
    obtain ⟨v, r, rfl, _, t⟩ := dta_cons.mp h
    exact DtAll.get (i := i) t (by simpa using q)
theorem DtAll.app : ∀ {ds es : List PyData} {vs us : List V}, DtAll G ds vs → DtAll G es us → DtAll G (ds ++ es) (vs ++ us)
  | [], _, _, _, h, k => by rw [dta_nil.mp h]; exact k
  | d :: ds, _, _, _, h, k => by
    obtain ⟨v, r, rfl, a, t⟩ := dta_cons.mp h
    exact dta_cons.mpr ⟨v, _, rfl, a, DtAll.app t k⟩
theorem DtAll.one {d : PyData} {v : V} (h : Dt G d v) : DtAll G [d] [v] := dta_cons.mpr ⟨v, [], rfl, h, dta_nil.mpr rfl⟩
theorem DtAll.two {d e : PyData} {v u : V} (h : Dt G d v) (k : Dt G e u) : DtAll G [d, e] [v, u] := dta_cons.mpr ⟨v, [u], rfl, h, .one k⟩
theorem DtAll.ints : ∀ {ns : List Int} {vs : List V}, DtAll G (ns.map PyData.int) vs ↔ vs = ns.map V.int
  | [], vs => dta_nil
  | n :: ns, vs => by
    constructor
    · intro h
      obtain ⟨v, r, rfl, a, t⟩ := dta_cons.mp h
      rw [dt_int.mp a, DtAll.ints.mp t]
      rfl
    · rintro rfl
      exact dta_cons.mpr ⟨_, _, rfl, dt_int.mpr rfl, DtAll.ints.mpr rfl⟩
theorem DtAll.bools : ∀ {ns : List Bool} {vs : List V}, DtAll G (ns.map PyData.bool) vs ↔ vs = ns.map V.bl
  | [], vs => dta_nil
  | n :: ns, vs => by
    constructor
    · intro h
      obtain ⟨v, r, rfl, a, t⟩ := dta_cons.mp h
      rw [dt_bool.mp a, DtAll.bools.mp t]
      rfl
    · rintro rfl
      exact dta_cons.mpr ⟨_, _, rfl, dt_bool.mpr rfl, DtAll.bools.mpr rfl⟩
theorem DtAll.atI {ds : List PyData} {vs : List V} {i : Int} {d : PyData} (h : DtAll G ds vs) (q : L2.atI ds i = some d) : ∃ v, L2.atI vs i = some v ∧ Dt G d v := by
  unfold L2.atI at *
  rw [h.length]
  cases e : ixN ds.length i with
  | none => rw [e] at q; cases q
  | some j =>
    rw [e] at q
    exact h.get q
end
/-! Dp, the layer's own, of these -/
mutual
theorem Dt.dp {K : PySem.W.Frag} {G H : Hp} (s : Same G H) : ∀ (d : PyData) (v : V), Dt G d v → Dp K H v d
  | .none, _, h => by rw [dt_none.mp h]; exact .non
  | .bool _, _, h => by rw [dt_bool.mp h]; exact .bl _
  | .int _, _, h => by rw [dt_int.mp h]; exact .int _
  | .str _, _, h => by rw [dt_str.mp h]; exact .str _
  | .list ds, _, h => by
    obtain ⟨a, xs, rfl, g, k⟩ := dt_list.mp h
    exact .lst (.inl (.inl (s _ _ g))) (DtAll.dp s ds xs k)
  | .tuple ds, _, h => by
    obtain ⟨a, xs, rfl, g, k⟩ := dt_tuple.mp h
    exact .tup (.inl (.inl (s _ _ g))) (DtAll.dp s ds xs k)
  | .dict _, _, h => by unfold Dt at h; exact h.elim
theorem DtAll.dp {K : PySem.W.Frag} {G H : Hp} (s : Same G H) : ∀ (ds : List PyData) (vs : List V), DtAll G ds vs → DpAll K H vs ds
  | [], _, h => by rw [dta_nil.mp h]; exact .nil
  | d :: ds, _, h => by
    obtain ⟨v, r, rfl, a, t⟩ := dta_cons.mp h
    exact .cons (Dt.dp s d v a) (DtAll.dp s ds r t)
end

/-! ### worlds -/
structure Tr (m : Option Addr) (G H G' H' : Hp) : Prop where
  g : Same G G'
  k : ∀ b o, m ≠ some b → H b = some o → H' b = some o
  f : ∀ b, H b ≠ none → G' b = G b
  n : ∀ b, H b ≠ none → H' b ≠ none
structure Wk (m : Option Addr) (n : Nat) (G H : Hp) : Prop where
  s : Same G H
  t : ∀ t, m = some t → G t = none ∧ ∃ a b c : Int, H t = some (.lst [.int a, .int b, .int c]) ∧ 0 ≤ c ∧ c ≤ n
section
variable {m : Option Addr} {n n' : Nat} {G H G1 H1 G2 H2 : Hp} {p : Addr} {o : HO}
theorem Tr.refl : Tr m G H G H := ⟨Same.refl _, fun _ _ _ h => h, fun _ _ => rfl, fun _ h => h⟩
theorem Tr.trans (a : Tr m G H G1 H1) (b : Tr m G1 H1 G2 H2) : Tr m G H G2 H2 :=
  ⟨a.g.trans b.g, fun c o q h => b.k c o q (a.k c o q h), fun c h => (b.f c (a.n c h)).trans (a.f c h), fun c h => b.n c (a.n c h)⟩
theorem Tr.any (a : Tr none G H G1 H1) : Tr m G H G1 H1 := ⟨a.g, fun b o _ h => a.k b o (by simp) h, a.f, a.n⟩
theorem Wk.mono (w : Wk m n G H) (h : n ≤ n') : Wk m n' G H := ⟨w.s, fun t e => by
  obtain ⟨g, a, b, c, h1, h2, h3⟩ := w.t t e
  exact ⟨g, a, b, c, h1, h2, by omega⟩⟩
theorem Wk.pure (w : Wk m n G H) : Wk none 0 G H := ⟨w.s, fun _ e => nomatch e⟩
/-- behind something that leaves the draws alone -/
theorem Wk.any (w : Wk m n G H) (a : Tr none G H G1 H1) (w1 : Same G1 H1) : Wk m n G1 H1 := ⟨w1, fun t e => by
  obtain ⟨g, x, b, c, h1, h2, h3⟩ := w.t t e
  have hne : H t ≠ none := by rw [h1]; intro z; cases z
  exact ⟨(a.f t hne).trans g, x, b, c, a.k t _ (by simp) h1, h2, h3⟩⟩
theorem same_new (h : H p = none) : Same H (upd H p o) := fun b x e => by rw [upd_ne (ne_of_none e h)]; exact e
theorem tr_new (s : Same G H) (h : H p = none) : Tr none G H (upd G p o) (upd H p o) :=
  ⟨same_new (s.free h), fun b x _ e => same_new h b x e, fun b hb => upd_ne fun e => hb (by rw [e]; exact h), fun b hb => by
    rw [upd_ne fun e => hb (by rw [e]; exact h)]
    exact hb⟩
theorem sm_new (s : Same G H) : Same (upd G p o) (upd H p o) := fun b x e => by
  by_cases hb : b = p
  · subst hb
    rw [upd_same] at *
    exact e
  · rw [upd_ne hb] at *
    exact s b x e
theorem tr_tmp (h : H p = none) : Tr none G H G (upd H p o) :=
  ⟨Same.refl _, fun b x _ e => same_new h b x e, fun _ _ => rfl, fun b hb => by
    rw [upd_ne fun e => hb (by rw [e]; exact h)]
    exact hb⟩
theorem sm_tmp (s : Same G H) (h : H p = none) : Same G (upd H p o) := s.trans (same_new h)
end

/-! ### slots: data; the draws; a list or a dict of the def's own that changes (B: what stood at the def's entry) -/
inductive Sl where
  | un
  | d (x : PyData)
  | tin
  | ml (acc : List PyData)
  | md (kvs : List (Int × Int))
  | sq (K : PySem.W.Frag) (ns : List Int)
def kvD (kvs : List (Int × Int)) : List (Key × V) := kvs.map fun p => (Sum.inl p.1, V.int p.2)
def SlOk (m : Option Addr) (B G H : Hp) : Sl → Option V → Prop
  | .un, _ => True
  | .d x, o => ∃ v, o = some v ∧ Dt G x v
  | .tin, o => ∃ t, m = some t ∧ o = some (.ref t)
  | .ml acc, o => ∃ D us, o = some (.ref D) ∧ H D = some (.lst us) ∧ G D = none ∧ B D = none ∧ m ≠ some D ∧ DtAll G acc us
  | .md kvs, o => ∃ D, o = some (.ref D) ∧ H D = some (.dK (kvD kvs)) ∧ G D = none ∧ B D = none ∧ m ≠ some D
  | .sq K ns, o => ∃ a, o = some (.ref a) ∧ m ≠ some a ∧ SqL K B a (ns.map V.int) ∧ SqL K H a (ns.map V.int)
abbrev Sg := List (Option V)
def StD (m : Option Addr) (B G H : Hp) (σ : Sg) (l : List Sl) : Prop := σ.length = l.length ∧ ∀ (i : Nat) (s : Sl) (o : Option V), l[i]? = some s → σ[i]? = some o → SlOk m B G H s o
section
variable {m : Option Addr} {n : Nat} {B G H G' H' : Hp} {σ : Sg} {l : List Sl}
theorem SlOk.step {s : Sl} {o : Option V} (h : Tr m G H G' H') (k : SlOk m B G H s o) : SlOk m B G' H' s o := by
  cases s with
  | un => exact k
  | d x => obtain ⟨v, e, q⟩ := k; exact ⟨v, e, Dt.mono h.g x v q⟩
  | tin => exact k
  | ml acc =>
    obtain ⟨D, us, e, hD, gD, bD, hm, ka⟩ := k
    have nz : H D ≠ none := by rw [hD]; intro z; cases z
    exact ⟨D, us, e, h.k D _ hm hD, (h.f D nz).trans gD, bD, hm, DtAll.mono h.g _ _ ka⟩
  | md kvs =>
    obtain ⟨D, e, hD, gD, bD, hm⟩ := k
    have nz : H D ≠ none := by rw [hD]; intro z; cases z
    exact ⟨D, e, h.k D _ hm hD, (h.f D nz).trans gD, bD, hm⟩
  | sq K ns =>
    obtain ⟨a, e, hm, hB, hS⟩ := k
    refine ⟨a, e, hm, hB, ?_⟩
    rcases hS with (q | ⟨ob, q⟩) | q
    · exact .inl (.inl (h.k a _ hm q))
    · exact .inl (.inr ⟨ob, h.k a _ hm q⟩)
    · exact .inr q
theorem StD.step (k : StD m B G H σ l) (h : Tr m G H G' H') : StD m B G' H' σ l := ⟨k.1, fun i s o a b => (k.2 i s o a b).step h⟩
theorem StD.set {i : Nat} {s : Sl} {o : Option V} (k : StD m B G H σ l) (h : SlOk m B G H s o) : StD m B G H (σ.set i o) (l.set i s) := by
  refine ⟨by rw [List.length_set, List.length_set]; exact k.1, fun j s' o' a b => ?_⟩
  by_cases e : i = j
  · subst e
    have hl : i < l.length := by
      have := (List.getElem?_eq_some_iff.mp a).1
      rw [List.length_set] at this
      exact this
    have hs : i < σ.length := by rw [k.1]; exact hl
    rw [List.getElem?_set_self hl] at a
    rw [List.getElem?_set_self hs] at b
    cases a
    cases b
    exact h
  · rw [List.getElem?_set_ne e] at a b
    exact k.2 j s' o' a b
theorem StD.setD {i : Nat} {x : PyData} {v : V} (k : StD m B G H σ l) (h : Dt G x v) : StD m B G H (σ.set i (some v)) (l.set i (.d x)) := k.set ⟨v, rfl, h⟩
def wipeL (l : List Sl) : List Nat → List Sl
  | [] => l
  | v :: vs => (wipeL l vs).set v .un
theorem StD.wipe (k : StD m B G H σ l) : ∀ vs : List Nat, StD m B G H (wipe σ vs) (wipeL l vs)
  | [] => k
  | v :: vs => (StD.wipe k vs).set True.intro
theorem StD.at (k : StD m B G H σ l) {i : Nat} {s : Sl} (h : l[i]? = some s) : ∃ o, σ[i]? = some o ∧ SlOk m B G H s o := by
  have hi : i < σ.length := by rw [k.1]; exact (List.getElem?_eq_some_iff.mp h).1
  exact ⟨_, List.getElem?_eq_getElem hi, k.2 i _ _ h (List.getElem?_eq_getElem hi)⟩
theorem StD.get {i : Nat} {x : PyData} (k : StD m B G H σ l) (h : l[i]? = some (.d x)) : ∃ v, σ[i]? = some (some v) ∧ Dt G x v := by
  obtain ⟨o, e, v, rfl, q⟩ := k.at h
  exact ⟨v, e, q⟩
theorem StD.tin {i : Nat} (k : StD m B G H σ l) (h : l[i]? = some .tin) : ∃ t, m = some t ∧ σ[i]? = some (some (.ref t)) := by
  obtain ⟨o, e, t, q, rfl⟩ := k.at h
  exact ⟨t, q, e⟩
end

/-! ### what an expression, arguments, a test, a walk, a statement comes to -/
abbrev PyP := PyData → Nat → Prop
def KE (m : Option Addr) (G H : Hp) (Φ : PyP) (Q : VK) : Prop := ∀ v d n' G' H', Φ d n' → Tr m G H G' H' → Wk m n' G' H' → Dt G' d v → Q v H'
def WE (m : Option Addr) (te : TE) (l : List Sl) (n : Nat) (Φ : PyP) : Prop := ∀ (B : Hp) (σ : Sg) (G H : Hp) (Q : VK), StD m B G H σ l → Wk m n G H → KE m G H Φ Q → te σ H Q
def WA (m : Option Addr) (ta : TA) (l : List Sl) (n : Nat) (Φ : List PyData → Nat → Prop) : Prop :=
  ∀ (B : Hp) (σ : Sg) (G H : Hp) (Q : List V → Hp → Prop), StD m B G H σ l → Wk m n G H → (∀ vs ds n' G' H', Φ ds n' → Tr m G H G' H' → Wk m n' G' H' → DtAll G' ds vs → Q vs H') → ta σ H Q
def WT (m : Option Addr) (tt : TT) (l : List Sl) (n : Nat) (Φ : Bool → Nat → Prop) : Prop :=
  ∀ (B : Hp) (σ : Sg) (G H : Hp) (Q : Bool → Hp → Prop), StD m B G H σ l → Wk m n G H → (∀ b n' G' H', Φ b n' → Tr m G H G' H' → Wk m n' G' H' → Q b H') → tt σ H Q
def WS (m : Option Addr) (ts : TS) (l : List Sl) (n : Nat) (Ψ : List Sl → Nat → Prop) (R : PyP) : Prop :=
  ∀ (G0 B : Hp) (σ : Sg) (G H : Hp) (D : Ends), Tr m G0 B G H → StD m B G H σ l → Wk m n G H →
    (∀ σ' l' n' G' H', Ψ l' n' → Same G G' → Tr m G0 B G' H' → Wk m n' G' H' → StD m B G' H' σ' l' → D.nx σ' H') → KE m G0 B R D.rt → ts D σ H
def Walks (m : Option Addr) (G1 : Hp) (J : It) (ds : List PyData) : Prop := ∀ (i : Nat) (G H : Hp) (n : Nat), Same G1 G → Wk m n G H →
  (i < ds.length → J.go i H ∧ ∀ x H', J.yld i H x H' → ∃ d G', ds[i]? = some d ∧ Tr m G H G' H' ∧ Wk m n G' H' ∧ Dt G' d x) ∧ (ds.length ≤ i → J.stop i H)
/-- .. as long as nothing that stands changes -/
def WalksT (m : Option Addr) (G1 H1 : Hp) (J : It) (ds : List PyData) : Prop := ∀ (i : Nat) (G H : Hp) (n : Nat), Tr m G1 H1 G H → Wk m n G H →
  (i < ds.length → J.go i H ∧ ∀ x H', J.yld i H x H' → ∃ d G', ds[i]? = some d ∧ Tr m G H G' H' ∧ Wk m n G' H' ∧ Dt G' d x) ∧ (ds.length ≤ i → J.stop i H)
def WIT (m : Option Addr) (wi : TI) (l : List Sl) (n : Nat) (P : List PyData → Nat → Prop) : Prop :=
  ∀ (B : Hp) (σ : Sg) (G H : Hp) (R : It → Hp → Prop), StD m B G H σ l → Wk m n G H → (∀ J ds n' G' H', P ds n' → Tr m G H G' H' → Wk m n' G' H' → WalksT m G' H' J ds → R J H') → wi σ H R
def WI (m : Option Addr) (wi : TI) (l : List Sl) (n : Nat) (P : List PyData → Nat → Prop) : Prop :=
  ∀ (B : Hp) (σ : Sg) (G H : Hp) (R : It → Hp → Prop), StD m B G H σ l → Wk m n G H → (∀ J ds n' G' H', P ds n' → Tr m G H G' H' → Wk m n' G' H' → Walks m G' J ds → R J H') → wi σ H R

section
variable {m : Option Addr} {l : List Sl} {n : Nat} {Φ : PyP}
theorem KE.step {G H G1 H1 : Hp} {Q : VK} (k : KE m G H Φ Q) (t : Tr m G H G1 H1) : KE m G1 H1 Φ Q := fun v d n' G' H' h t1 w x => k v d n' G' H' h (t.trans t1) w x
theorem KE.here {G H : Hp} {Q : VK} {d : PyData} {v : V} (k : KE m G H Φ Q) (w : Wk m n G H) (h : Φ d n) (x : Dt G d v) : Q v H := k v d n G H h .refl w x
theorem KE.newD {G H : Hp} {Q : VK} {d : PyData} {p : Addr} {o : HO} (k : KE m G H Φ Q) (w : Wk m n G H) (hp : H p = none) (h : Φ d n) (x : Dt (upd G p o) d (.ref p)) : Q (.ref p) (upd H p o) :=
  k _ d n _ _ h (tr_new w.s hp).any (w.any (tr_new w.s hp) (sm_new w.s)) x
theorem WE.imp {te : TE} {Φ' : PyP} (h : WE m te l n Φ) (k : ∀ d n', Φ d n' → Φ' d n') : WE m te l n Φ' := fun B σ G H Q hs hw q => h B σ G H Q hs hw fun v d n' G' H' p => q v d n' G' H' (k d n' p)

/-! names, constants -/
theorem we_var {i : Nat} {x : PyData} (h : l[i]? = some (.d x)) (k : Φ x n) : WE m (tVar i) l n Φ := fun B σ G H Q hs hw q => by
  obtain ⟨v, e, d⟩ := hs.get h
  exact ⟨v, e, q.here hw k d⟩
theorem we_int {i : Int} (k : Φ (.int i) n) : WE m (tC (.int i)) l n Φ := fun B σ G H Q hs hw q => q.here hw k (dt_int.mpr rfl)
theorem we_bl {b : Bool} (k : Φ (.bool b) n) : WE m (tC (.bl b)) l n Φ := fun B σ G H Q hs hw q => q.here hw k (dt_bool.mpr rfl)
theorem we_str {b : Str} (k : Φ (.str b) n) : WE m (tC (.str b)) l n Φ := fun B σ G H Q hs hw q => q.here hw k (dt_str.mpr rfl)
theorem we_non (k : Φ .none n) : WE m (tC .non) l n Φ := fun B σ G H Q hs hw q => q.here hw k (dt_none.mpr rfl)

/-! arguments, displays -/
theorem wa_nil {Ψ : List PyData → Nat → Prop} (k : Ψ [] n) : WA m tNil l n Ψ := fun B σ G H Q hs hw q => q [] [] n G H k .refl hw (dta_nil.mpr rfl)
theorem wa_cons {te : TE} {ta : TA} {Ψ : List PyData → Nat → Prop} (h : WE m te l n fun d n1 => WA m ta l n1 fun ds n2 => Ψ (d :: ds) n2) : WA m (tCons te ta) l n Ψ := fun B σ G H Q hs hw q =>
  h B σ G H _ hs hw fun v d n1 G1 H1 h1 t1 w1 x1 => h1 B σ G1 H1 _ (hs.step t1) w1 fun vs ds n2 G2 H2 h2 t2 w2 x2 => q _ _ n2 G2 H2 h2 (t1.trans t2) w2 (dta_cons.mpr ⟨v, vs, rfl, Dt.mono t2.g d v x1, x2⟩)
theorem line1000 {k : Nat} (h : k ≤ 1000) : k ≤ sizeLine := Nat.le_of_lt (small1000 h)
theorem DtAll.newD {G : Hp} {p : Addr} {o : HO} {ds : List PyData} {vs : List V} (x : DtAll G ds vs) (h : G p = none) : DtAll (upd G p o) ds vs := DtAll.mono (same_new h) ds vs x
theorem we_tup {ta : TA} (h : WA m ta l n fun ds n' => ds.length ≤ 1000 ∧ Φ (.tuple ds) n') : WE m (tTup ta) l n Φ := fun B σ G H Q hs hw q =>
  h B σ G H _ hs hw fun vs ds n' G' H' ⟨hl, h'⟩ t w x => ⟨by rw [x.length]; exact line1000 hl, fun p hp => (q.step t).newD w hp h' (dt_tuple.mpr ⟨p, vs, rfl, upd_same, x.newD (w.s.free hp)⟩)⟩
theorem we_lst {ta : TA} (h : WA m ta l n fun ds n' => ds.length ≤ 1000 ∧ Φ (.list ds) n') : WE m (tLst ta) l n Φ := fun B σ G H Q hs hw q =>
  h B σ G H _ hs hw fun vs ds n' G' H' ⟨hl, h'⟩ t w x => ⟨by rw [x.length]; exact line1000 hl, fun p hp => (q.step t).newD w hp h' (dt_list.mpr ⟨p, vs, rfl, upd_same, x.newD (w.s.free hp)⟩)⟩

/-! operators by values -/
def RD (m : Option Addr) (r : R2) (Pre : PyP → PyData → PyData → Nat → Prop) : Prop := ∀ (Φ : PyP) (v1 v2 : V) (d1 d2 : PyData) (n : Nat) (G H : Hp) (Q : VK), Dt G d1 v1 → Dt G d2 v2 → Wk m n G H → Pre Φ d1 d2 n → KE m G H Φ Q → r v1 v2 H Q
theorem we_op2 {r : R2} {Pre : PyP → PyData → PyData → Nat → Prop} {ta tb : TE} (hr : RD m r Pre) (h : WE m ta l n fun x n1 => WE m tb l n1 fun y n2 => Pre Φ x y n2) : WE m (tOp r ta tb) l n Φ := fun B σ G H Q hs hw q =>
  h B σ G H _ hs hw fun v1 d1 n1 G1 H1 h1 t1 w1 x1 => h1 B σ G1 H1 _ (hs.step t1) w1 fun v2 d2 n2 G2 H2 h2 t2 w2 x2 => hr Φ v1 v2 d1 d2 n2 G2 H2 Q (Dt.mono t2.g d1 v1 x1) x2 w2 h2 (q.step (t1.trans t2))
def toD : V → PyData
  | .int i => .int i
  | .bl b => .bool b
  | .str x => .str x
  | _ => .none
def sc : V → Bool
  | .int _ => true | .bl _ => true | .str _ => true | .non => true
  | _ => false
theorem dt_sc {G : Hp} {v : V} (h : sc v = true) : Dt G (toD v) v := by
  cases v with
  | int i => exact dt_int.mpr rfl
  | bl i => exact dt_bool.mpr rfl
  | str i => exact dt_str.mpr rfl
  | non => exact dt_none.mpr rfl
  | byt _ => cases h
  | flt _ => cases h
  | ref _ => cases h
  | ty _ => cases h
theorem rd_i0 {g : Int → Int → V} : RD m (rI0 g) fun Φ x y n => ∃ i j, x = .int i ∧ y = .int j ∧ sc (g i j) = true ∧ Φ (toD (g i j)) n := by
  rintro Φ v1 v2 d1 d2 n G H Q x1 x2 w ⟨i, j, rfl, rfl, hsc, h⟩ q
  exact ⟨i, j, dt_int.mp x1, dt_int.mp x2, q.here w h (dt_sc hsc)⟩
theorem rd_i {C : Int → Int → Prop} {g : Int → Int → V} : RD m (rI C g) fun Φ x y n => ∃ i j, x = .int i ∧ y = .int j ∧ C i j ∧ sc (g i j) = true ∧ Φ (toD (g i j)) n := by
  rintro Φ v1 v2 d1 d2 n G H Q x1 x2 w ⟨i, j, rfl, rfl, hC, hsc, h⟩ q
  exact ⟨i, j, dt_int.mp x1, dt_int.mp x2, hC, q.here w h (dt_sc hsc)⟩
theorem rd_eqI : RD m rEq fun Φ x y n => ∃ i j, x = .int i ∧ y = .int j ∧ Φ (.bool (decide (i = j))) n := by
  rintro Φ v1 v2 d1 d2 n G H Q x1 x2 w ⟨i, j, rfl, rfl, h⟩ q
  rw [dt_int.mp x1, dt_int.mp x2]
  refine ⟨rfl, q.here w h (dt_bool.mpr ?_)⟩
  simp
theorem rd_eqB : RD m rEq fun Φ x y n => ∃ i j, x = .bool i ∧ y = .bool j ∧ Φ (.bool (decide (i = j))) n := by
  rintro Φ v1 v2 d1 d2 n G H Q x1 x2 w ⟨i, j, rfl, rfl, h⟩ q
  rw [dt_bool.mp x1, dt_bool.mp x2]
  refine ⟨rfl, q.here w h (dt_bool.mpr ?_)⟩
  simp
theorem rd_eqS : RD m rEq fun Φ x y n => ∃ i j, x = .str i ∧ y = .str j ∧ Φ (.bool (decide (i = j))) n := by
  rintro Φ v1 v2 d1 d2 n G H Q x1 x2 w ⟨i, j, rfl, rfl, h⟩ q
  rw [dt_str.mp x1, dt_str.mp x2]
  refine ⟨rfl, q.here w h (dt_bool.mpr ?_)⟩
  simp
theorem rd_neB : RD m rNe fun Φ x y n => ∃ i j, x = .bool i ∧ y = .bool j ∧ Φ (.bool (!decide (i = j))) n := by
  rintro Φ v1 v2 d1 d2 n G H Q x1 x2 w ⟨i, j, rfl, rfl, h⟩ q
  rw [dt_bool.mp x1, dt_bool.mp x2]
  refine ⟨rfl, q.here w h (dt_bool.mpr ?_)⟩
  simp
theorem rd_eqD {K : PySem.W.Frag} : RD m (rEqD K) fun Φ x y n => SeqAt.shaped x = true ∧ SeqAt.shaped y = true ∧ Φ (.bool (PyData.eqv x y)) n := by
  rintro Φ v1 v2 d1 d2 n G H Q x1 x2 w ⟨h1, h2, h⟩ q
  exact ⟨d1, d2, Dt.dp w.s d1 v1 x1, Dt.dp w.s d2 v2 x2, h1, h2, q.here w h (dt_bool.mpr rfl)⟩
theorem rd_cat : RD m rCat fun Φ x y n => ∃ xs ys, x = .list xs ∧ y = .list ys ∧ xs.length + ys.length ≤ 1000 ∧ Φ (.list (xs ++ ys)) n := by
  rintro Φ v1 v2 d1 d2 n G H Q x1 x2 w ⟨xs, ys, rfl, rfl, hl, h⟩ q
  obtain ⟨a, us, rfl, ga, ka⟩ := dt_list.mp x1
  obtain ⟨b, vs, rfl, gb, kb⟩ := dt_list.mp x2
  exact ⟨a, b, us, vs, rfl, rfl, w.s _ _ ga, w.s _ _ gb, by rw [ka.length, kb.length]; exact line1000 hl, fun p hp => q.newD w hp h (dt_list.mpr ⟨p, _, rfl, upd_same, (ka.app kb).newD (w.s.free hp)⟩)⟩
theorem rd_ixT {K : PySem.W.Frag} : RD m (rIxT K) fun Φ x y n => ∃ ds i d, x = .tuple ds ∧ y = .int i ∧ L2.atI ds i = some d ∧ Φ d n := by
  rintro Φ v1 v2 d1 d2 n G H Q x1 x2 w ⟨ds, i, d, rfl, rfl, e, h⟩ q
  obtain ⟨a, us, rfl, ga, ka⟩ := dt_tuple.mp x1
  obtain ⟨v, ev, dv⟩ := ka.atI e
  exact ⟨a, us, i, v, rfl, dt_int.mp x2, .inl (.inl (w.s _ _ ga)), ev, q.here w h dv⟩
theorem rd_ixL {K : PySem.W.Frag} : RD m (rIxL K) fun Φ x y n => ∃ ds i d, x = .list ds ∧ y = .int i ∧ L2.atI ds i = some d ∧ Φ d n := by
  rintro Φ v1 v2 d1 d2 n G H Q x1 x2 w ⟨ds, i, d, rfl, rfl, e, h⟩ q
  obtain ⟨a, us, rfl, ga, ka⟩ := dt_list.mp x1
  obtain ⟨v, ev, dv⟩ := ka.atI e
  exact ⟨a, us, i, v, rfl, dt_int.mp x2, .inl (.inl (w.s _ _ ga)), ev, q.here w h dv⟩
def isNoneD : PyData → Bool
  | .none => true
  | _ => false
theorem rd_isN : RD m (fun x y H Q => y = .non ∧ Q (.bl (decide (x = .non))) H) fun Φ x y n => y = .none ∧ Φ (.bool (isNoneD x)) n := by
  rintro Φ v1 v2 d1 d2 n G H Q x1 x2 w ⟨rfl, h⟩ q
  refine ⟨dt_none.mp x2, q.here w h (dt_bool.mpr ?_)⟩
  cases d1 with
  | none => rw [dt_none.mp x1]; rfl
  | bool _ => rw [dt_bool.mp x1]; rfl
  | int _ => rw [dt_int.mp x1]; rfl
  | str _ => rw [dt_str.mp x1]; rfl
  | list _ => obtain ⟨a, us, rfl, _⟩ := dt_list.mp x1; rfl
  | tuple _ => obtain ⟨a, us, rfl, _⟩ := dt_tuple.mp x1; rfl
  | dict _ => unfold Dt at x1; exact x1.elim
theorem we_neg {ta : TE} (h : WE m ta l n fun x n1 => ∃ i, x = .int i ∧ Φ (.int (-i)) n1) : WE m (tUn (rU fun i => .int (-i)) ta) l n Φ := fun B σ G H Q hs hw q =>
  h B σ G H _ hs hw fun v1 d1 n1 G1 H1 ⟨i, e, h1⟩ t1 w1 x1 => by
    subst e
    exact ⟨i, dt_int.mp x1, (q.step t1).here w1 h1 (dt_int.mpr rfl)⟩

/-! built-ins -/
def CD (m : Option Addr) (r : List V → Hp → VK → Prop) (Pre : PyP → List PyData → Nat → Prop) : Prop := ∀ (Φ : PyP) (vs : List V) (ds : List PyData) (n : Nat) (G H : Hp) (Q : VK), DtAll G ds vs → Wk m n G H → Pre Φ ds n → KE m G H Φ Q → r vs H Q
theorem we_cb {r : List V → Hp → VK → Prop} {Pre : PyP → List PyData → Nat → Prop} {ta : TA} (hr : CD m r Pre) (h : WA m ta l n fun ds n1 => Pre Φ ds n1) : WE m (tCB r ta) l n Φ := fun B σ G H Q hs hw q =>
  h B σ G H _ hs hw fun vs ds n1 G1 H1 h1 t1 w1 x1 => hr Φ vs ds n1 G1 H1 Q x1 w1 h1 (q.step t1)
theorem DtAll.v1 {G : Hp} {d : PyData} {vs : List V} (h : DtAll G [d] vs) : ∃ v, vs = [v] ∧ Dt G d v := by
  obtain ⟨v, r, rfl, k, t⟩ := dta_cons.mp h
  rw [dta_nil.mp t]
  exact ⟨v, rfl, k⟩
theorem DtAll.v2 {G : Hp} {d e : PyData} {vs : List V} (h : DtAll G [d, e] vs) : ∃ v u, vs = [v, u] ∧ Dt G d v ∧ Dt G e u := by
  obtain ⟨v, r, rfl, k, t⟩ := dta_cons.mp h
  obtain ⟨u, rfl, k2⟩ := t.v1
  exact ⟨v, u, rfl, k, k2⟩
theorem seq_of {K : PySem.W.Frag} {G H : Hp} {es : List PyData} {d : PyData} {v : V} (s : Same G H) (h : Dt G d v) (e : d = .list es ∨ d = .tuple es) : ∃ a ys, v = .ref a ∧ (SqL K H a ys ∨ SqT K H a ys) ∧ DtAll G es ys ∧ ((d = .list es ∧ SqL K H a ys) ∨ (d = .tuple es ∧ SqT K H a ys)) := by
  rcases e with rfl | rfl
  · obtain ⟨a, us, rfl, ga, ka⟩ := dt_list.mp h
    exact ⟨a, us, rfl, .inl (.inl (.inl (s _ _ ga))), ka, .inl ⟨rfl, .inl (.inl (s _ _ ga))⟩⟩
  · obtain ⟨a, us, rfl, ga, ka⟩ := dt_tuple.mp h
    exact ⟨a, us, rfl, .inr (.inl (.inl (s _ _ ga))), ka, .inr ⟨rfl, .inl (.inl (s _ _ ga))⟩⟩
theorem cd_len {K : PySem.W.Frag} : CD m (fun xs H Q => ∃ p ys, xs = [.ref p] ∧ (SqL K H p ys ∨ SqT K H p ys) ∧ Q (.int (ys.length : Nat)) H) fun Φ ds n => ∃ d es, ds = [d] ∧ (d = .list es ∨ d = .tuple es) ∧ Φ (.int (es.length : Nat)) n := by
  rintro Φ vs ds n G H Q x w ⟨d, es, rfl, e, h⟩ q
  obtain ⟨v, rfl, k⟩ := x.v1
  obtain ⟨a, ys, rfl, s, ka, _⟩ := seq_of w.s k e
  refine ⟨a, ys, rfl, s, ?_⟩
  rw [ka.length]
  exact q.here w h (dt_int.mpr rfl)
theorem cd_list {K : PySem.W.Frag} : CD m (fun xs H Q => ∃ p ys, xs = [.ref p] ∧ (SqL K H p ys ∨ SqT K H p ys) ∧ ∀ l, H l = none → Q (.ref l) (upd H l (.lst ys))) fun Φ ds n => ∃ d es, ds = [d] ∧ (d = .list es ∨ d = .tuple es) ∧ Φ (.list es) n := by
  rintro Φ vs ds n G H Q x w ⟨d, es, rfl, e, h⟩ q
  obtain ⟨v, rfl, k⟩ := x.v1
  obtain ⟨a, ys, rfl, s, ka, _⟩ := seq_of w.s k e
  exact ⟨a, ys, rfl, s, fun p hp => q.newD w hp h (dt_list.mpr ⟨p, ys, rfl, upd_same, ka.newD (w.s.free hp)⟩)⟩
theorem cd_tuple {K : PySem.W.Frag} : CD m (fun xs H Q => ∃ p ys, xs = [.ref p] ∧ ((SqL K H p ys ∧ ∀ l, H l = none → Q (.ref l) (upd H l (.tup ys))) ∨ (SqT K H p ys ∧ Q (.ref p) H))) fun Φ ds n => ∃ d es, ds = [d] ∧ (d = .list es ∨ d = .tuple es) ∧ Φ (.tuple es) n := by
  rintro Φ vs ds n G H Q x w ⟨d, es, rfl, e, h⟩ q
  obtain ⟨v, rfl, k⟩ := x.v1
  obtain ⟨a, ys, rfl, s, ka, s'⟩ := seq_of (K := K) w.s k e
  refine ⟨a, ys, rfl, ?_⟩
  rcases s' with ⟨_, s'⟩ | ⟨rfl, s'⟩
  · exact .inl ⟨s', fun p hp => q.newD w hp h (dt_tuple.mpr ⟨p, ys, rfl, upd_same, ka.newD (w.s.free hp)⟩)⟩
  · exact .inr ⟨s', q.here w h k⟩
theorem cd_all {K : PySem.W.Frag} : CD m (rAll K) fun Φ ds n => ∃ bs : List Bool, ds = [.list (bs.map PyData.bool)] ∧ Φ (.bool (bs.all id)) n := by
  rintro Φ vs ds n G H Q x w ⟨bs, rfl, h⟩ q
  obtain ⟨v, rfl, k⟩ := x.v1
  obtain ⟨a, us, rfl, ga, ka⟩ := dt_list.mp k
  rw [DtAll.bools.mp ka] at ga
  exact ⟨a, bs, rfl, .inl (.inl (w.s _ _ ga)), q.here w h (dt_bool.mpr rfl)⟩
theorem cd_divmod : CD m (fun xs H Q => ∃ i j, xs = [.int i, .int j] ∧ CDiv i j ∧ ∀ p, H p = none → Q (.ref p) (upd H p (.tup [.int (i / j), .int (i % j)]))) fun Φ ds n => ∃ i j, ds = [.int i, .int j] ∧ CDiv i j ∧ Φ (.tuple [.int (i / j), .int (i % j)]) n := by
  rintro Φ vs ds n G H Q x w ⟨i, j, rfl, hc, h⟩ q
  obtain ⟨v, u, rfl, k1, k2⟩ := x.v2
  rw [dt_int.mp k1, dt_int.mp k2]
  exact ⟨i, j, rfl, hc, fun p hp => q.newD w hp h (dt_tuple.mpr ⟨p, _, rfl, upd_same, .two (dt_int.mpr rfl) (dt_int.mpr rfl)⟩)⟩
theorem cd_int : CD m (fun xs H Q => (∃ i, xs = [.int i] ∧ Q (.int i) H) ∨ ∃ k, xs = [.bl k] ∧ Q (.int (if k then 1 else 0)) H) fun Φ ds n => (∃ i, ds = [.int i] ∧ Φ (.int i) n) ∨ ∃ k : Bool, ds = [.bool k] ∧ Φ (.int (if k then 1 else 0)) n := by
  rintro Φ vs ds n G H Q x w (⟨i, rfl, h⟩ | ⟨k, rfl, h⟩) q
  · obtain ⟨v, rfl, k1⟩ := x.v1
    rw [dt_int.mp k1]
    exact .inl ⟨i, rfl, q.here w h (dt_int.mpr rfl)⟩
  · obtain ⟨v, rfl, k1⟩ := x.v1
    rw [dt_bool.mp k1]
    exact .inr ⟨k, rfl, q.here w h (dt_int.mpr rfl)⟩
theorem cd_abs : CD m (fun xs H Q => ∃ i, xs = [.int i] ∧ Q (.int (if i < 0 then -i else i)) H) fun Φ ds n => ∃ i, ds = [.int i] ∧ Φ (.int (if i < 0 then -i else i)) n := by
  rintro Φ vs ds n G H Q x w ⟨i, rfl, h⟩ q
  obtain ⟨v, rfl, k1⟩ := x.v1
  rw [dt_int.mp k1]
  exact ⟨i, rfl, q.here w h (dt_int.mpr rfl)⟩
theorem cd_min : CD m (fun xs H Q => ∃ i j, xs = [.int i, .int j] ∧ Q (.int (if j < i then j else i)) H) fun Φ ds n => ∃ i j, ds = [.int i, .int j] ∧ Φ (.int (if j < i then j else i)) n := by
  rintro Φ vs ds n G H Q x w ⟨i, j, rfl, h⟩ q
  obtain ⟨v, u, rfl, k1, k2⟩ := x.v2
  rw [dt_int.mp k1, dt_int.mp k2]
  exact ⟨i, j, rfl, q.here w h (dt_int.mpr rfl)⟩

/-! isinstance -/
def tyD : PyData → String
  | .none => "NoneType"
  | .bool _ => "bool"
  | .int _ => "int"
  | .str _ => "str"
  | .list _ => "list"
  | .tuple _ => "tuple"
  | .dict _ => "dict"
def isiD (d : PyData) (T : String) : Bool := kitB (tyD d) T == some true
theorem tyx {K : PySem.W.Frag} {G H : Hp} {d : PyData} {v : V} (s : Same G H) (h : Dt G d v) : TyX K H v (.type (tyD d)) := by
  cases d with
  | none => rw [dt_none.mp h]; exact .base .non
  | bool b => rw [dt_bool.mp h]; exact .base (.bl b)
  | int b => rw [dt_int.mp h]; exact .base (.int b)
  | str b => rw [dt_str.mp h]; exact .base (.str b)
  | list ds => obtain ⟨a, us, rfl, ga, _⟩ := dt_list.mp h; exact .base (.lst (s _ _ ga))
  | tuple ds => obtain ⟨a, us, rfl, ga, _⟩ := dt_tuple.mp h; exact .base (.tup (s _ _ ga))
  | dict _ => unfold Dt at h; exact h.elim
def tNames : List String := ["NoneType", "bool", "int", "str", "list", "tuple", "dict"]
theorem ty_mem (d : PyData) : tyD d ∈ tNames := by cases d <;> simp [tyD, tNames]
theorem kit_some : ∀ a ∈ tNames, ∀ b ∈ tNames, (kitB a b).isSome = true := by decide +kernel
theorem kit_is {K : PySem.W.Frag} {d : PyData} {T : String} (hT : T ∈ tNames) : PySem.W.kitOne K (.type (tyD d)) (.type T) = some (isiD d T) := by
  have h := kit_some _ (ty_mem d) T hT
  refine kit_ty ?_
  unfold isiD
  cases e : kitB (tyD d) T with
  | none => rw [e] at h; cases h
  | some b => cases b <;> rfl
theorem we_isi {K : PySem.W.Frag} {te : TE} {T : String} (hT : T ∈ tNames) (h : WE m te l n fun d n' => Φ (.bool (isiD d T)) n') : WE m (tCB (rIsi K) (tCons te (tCons (tC (.ty T)) tNil))) l n Φ := fun B σ G H Q hs hw q =>
  h B σ G H _ hs hw fun v d n' G' H' h' t w x => ⟨v, .ty T, _, _, _, rfl, .ty T, tyx w.s x, kit_is hT, (q.step t).here w h' (dt_bool.mpr rfl)⟩
theorem we_isi2 {K : PySem.W.Frag} {te : TE} {T U : String} (hT : T ∈ tNames) (hU : U ∈ tNames) (h : WE m te l n fun d n' => Φ (.bool (isiD d T || isiD d U)) n') :
    WE m (tCB (rIsiT K) (tCons te (tCons (tTup (tCons (tC (.ty T)) (tCons (tC (.ty U)) tNil))) tNil))) l n Φ := fun B σ G H Q hs hw q =>
  h B σ G H _ hs hw fun v d n' G' H' h' t w x => ⟨by show 2 ≤ sizeLine; decide, fun p hp => by
    refine ⟨v, p, _, _, _, isiD d T || isiD d U, rfl, upd_same, .cons (.ty T) (.cons (.ty U) .nil), tyx (sm_tmp w.s hp) x, ?_, ?_⟩
    · exact kitAny_cons (kit_is hT) (fun e => kitAny_cons (b := isiD d U) (kit_is hU) (fun e2 => by rw [e, e2]; exact kitAny_nil) (fun e2 => by rw [e, e2]; rfl)) (fun e => by rw [e]; rfl)
    · exact (q.step (t.trans (tr_tmp hp).any)).here (w.any (tr_tmp hp) (sm_tmp w.s hp)) h' (dt_bool.mpr rfl)⟩

/-! choices -/
theorem wt_b {te : TE} {Φ : Bool → Nat → Prop} (h : WE m te l n fun d n' => ∃ b, d = .bool b ∧ Φ b n') : WT m (tB te) l n Φ := fun B σ G H Q hs hw q =>
  h B σ G H _ hs hw fun v d n' G' H' ⟨b, e, h'⟩ t w x => by
    subst e
    exact ⟨b, dt_bool.mp x, q b n' G' H' h' t w⟩
theorem wt_test {te : TE} {Φ : Bool → Nat → Prop} (h : WE m te l n fun d n' => ∃ b, d = .bool b ∧ Φ b n') : WT m (tTest te) l n Φ := wt_b h
theorem wt_not {tt : TT} {Φ : Bool → Nat → Prop} (h : WT m tt l n fun b n' => Φ (!b) n') : WT m (tNot tt) l n Φ := fun B σ G H Q hs hw q =>
  h B σ G H _ hs hw fun b n' G' H' h' t w => q (!b) n' G' H' h' t w
theorem wt_or {ta tb : TT} {Φ : Bool → Nat → Prop} (h : WT m ta l n fun b n' => (b = true → Φ true n') ∧ (b = false → WT m tb l n' Φ)) : WT m (tOr ta tb) l n Φ := fun B σ G H Q hs hw q =>
  h B σ G H _ hs hw fun b n' G' H' h' t w => by
    cases b with
    | true => exact iteT (q true n' G' H' (h'.1 rfl) t w)
    | false => exact iteF (h'.2 rfl B σ G' H' Q (hs.step t) w fun c n2 G2 H2 k t2 w2 => q c n2 G2 H2 k (t.trans t2) w2)
theorem wt_and {ta tb : TT} {Φ : Bool → Nat → Prop} (h : WT m ta l n fun b n' => (b = false → Φ false n') ∧ (b = true → WT m tb l n' Φ)) : WT m (tAnd ta tb) l n Φ := fun B σ G H Q hs hw q =>
  h B σ G H _ hs hw fun b n' G' H' h' t w => by
    cases b with
    | false => exact iteF (q false n' G' H' (h'.1 rfl) t w)
    | true => exact iteT (h'.2 rfl B σ G' H' Q (hs.step t) w fun c n2 G2 H2 k t2 w2 => q c n2 G2 H2 k (t.trans t2) w2)
theorem we_andV {ta tb : TE} (h : WE m ta l n fun d n' => ∃ b, d = .bool b ∧ (b = false → Φ (.bool false) n') ∧ (b = true → WE m tb l n' Φ)) : WE m (tAndV ta tb) l n Φ := fun B σ G H Q hs hw q =>
  h B σ G H _ hs hw fun v d n' G' H' ⟨b, e, h'⟩ t w x => by
    subst e
    refine ⟨b, dt_bool.mp x, ?_⟩
    cases b with
    | false => exact iteF ((q.step t).here w (h'.1 rfl) (dt_bool.mpr rfl))
    | true => exact iteT (h'.2 rfl B σ G' H' Q (hs.step t) w (q.step t))
theorem we_orV {ta tb : TE} (h : WE m ta l n fun d n' => ∃ b, d = .bool b ∧ (b = true → Φ (.bool true) n') ∧ (b = false → WE m tb l n' Φ)) : WE m (tOrV ta tb) l n Φ := fun B σ G H Q hs hw q =>
  h B σ G H _ hs hw fun v d n' G' H' ⟨b, e, h'⟩ t w x => by
    subst e
    refine ⟨b, dt_bool.mp x, ?_⟩
    cases b with
    | true => exact iteT ((q.step t).here w (h'.1 rfl) (dt_bool.mpr rfl))
    | false => exact iteF (h'.2 rfl B σ G' H' Q (hs.step t) w (q.step t))
theorem we_notV {ta : TE} (h : WE m ta l n fun d n' => ∃ b, d = .bool b ∧ Φ (.bool (!b)) n') : WE m (tNotV ta) l n Φ := fun B σ G H Q hs hw q =>
  h B σ G H _ hs hw fun v d n' G' H' ⟨b, e, h'⟩ t w x => by
    subst e
    exact ⟨b, dt_bool.mp x, (q.step t).here w h' (dt_bool.mpr rfl)⟩
theorem we_if {tt : TT} {ta tb : TE} (h : WT m tt l n fun b n' => (b = true → WE m ta l n' Φ) ∧ (b = false → WE m tb l n' Φ)) : WE m (tIf tt ta tb) l n Φ := fun B σ G H Q hs hw q =>
  h B σ G H _ hs hw fun b n' G' H' h' t w => by
    cases b with
    | true => exact iteT (h'.1 rfl B σ G' H' Q (hs.step t) w (q.step t))
    | false => exact iteF (h'.2 rfl B σ G' H' Q (hs.step t) w (q.step t))
end
end BW

set_option Elab.async false
set_option linter.all false
set_option maxRecDepth 100000
set_option maxHeartbeats 4000000
/-! The small logic, second part: walks, comprehensions, loops, statements, defs. -/
namespace BW
open PySem PySem.Spec PyProof.Rows L2

/-! ### an object of the def's own that changes (at D), kept out of the data -/
section
variable {m : Option Addr} {n : Nat} {G H G1 H1 G2 H2 : Hp} {D : Addr} {o : HO}
theorem Tr.put (T : Tr m G1 H1 G H) (hD : H1 D = none) : Tr m G1 H1 G (upd H D o) :=
  ⟨T.g, fun b x q e => by rw [upd_ne (ne_of_none e hD)]; exact T.k b x q e, T.f, fun b e => by
    rw [upd_ne fun z => e (by rw [z]; exact hD)]
    exact T.n b e⟩
theorem Wk.ne (w : Wk m n G H) (hD : H D = none) : m ≠ some D := fun e => by
  obtain ⟨_, a, b, c, h, _⟩ := w.t D e
  rw [hD] at h
  cases h
theorem Wk.put (w : Wk m n G H) (gD : G D = none) (hm : m ≠ some D) : Wk m n G (upd H D o) :=
  ⟨fun b x e => by rw [upd_ne (ne_of_none e gD)]; exact w.s b x e, fun t e => by
    obtain ⟨g, a, b, c, h⟩ := w.t t e
    exact ⟨g, a, b, c, by rw [upd_ne fun z => hm (by rw [e, z])]; exact h⟩⟩
theorem Tr.seal (T : Tr m G1 H1 G2 H2) (hD : H1 D = none) (gD : G1 D = none) : Tr m G1 H1 (upd G2 D o) H2 :=
  ⟨fun b x e => by rw [upd_ne (ne_of_none e gD)]; exact T.g b x e, T.k, fun b e => by
    rw [upd_ne fun z => e (by rw [z]; exact hD)]
    exact T.f b e, T.n⟩
theorem Wk.seal (w : Wk m n G H) (h : H D = some o) (hm : m ≠ some D) : Wk m n (upd G D o) H :=
  ⟨fun b x e => by
    by_cases hb : b = D
    · subst hb
      rw [upd_same] at e
      rw [h]
      exact e
    · rw [upd_ne hb] at e
      exact w.s b x e, fun t e => by
    obtain ⟨g, a, b, c, h'⟩ := w.t t e
    exact ⟨by rw [upd_ne fun z => hm (by rw [e, z])]; exact g, a, b, c, h'⟩⟩
end

section
variable {m : Option Addr} {l : List Sl} {n : Nat} {Φ : PyP}
/-! ### walks -/
theorem wi_list {K : PySem.W.Frag} {te : TE} {P : List PyData → Nat → Prop} (h : WE m te l n fun d n' => ∃ es, d = .list es ∧ P es n') : WI m (iList K te) l n P := fun B σ G H R hs hw q =>
  h B σ G H _ hs hw fun v d n' G' H' ⟨es, e, h'⟩ t w x => by
    subst e
    obtain ⟨a, us, rfl, ga, ka⟩ := dt_list.mp x
    refine ⟨a, rfl, ⟨us, .inl (.inl (w.s _ _ ga))⟩, q _ es n' G' H' h' t w ?_⟩
    intro i G2 H2 n2 s2 w2
    have hS : SqL K H2 a us := .inl (.inl (w2.s _ _ (s2 _ _ ga)))
    refine ⟨fun hi => ?_, fun hi => ⟨us, hS, by rw [ka.length]; exact hi⟩⟩
    obtain ⟨y, ey, dy⟩ := ka.get (List.getElem?_eq_getElem hi)
    refine ⟨⟨us, y, hS, ey⟩, fun z H3 hz => ?_⟩
    obtain ⟨e1, e2⟩ := hz
    subst e1
    have e3 : y = z := Option.some.inj (ey.symm.trans (e2 us hS))
    subst e3
    exact ⟨es[i], G2, List.getElem?_eq_getElem hi, .refl, w2, Dt.mono s2 _ _ dy⟩
theorem wi_tup {K : PySem.W.Frag} {te : TE} {P : List PyData → Nat → Prop} (h : WE m te l n fun d n' => ∃ es, d = .tuple es ∧ P es n') : WI m (iTup K te) l n P := fun B σ G H R hs hw q =>
  h B σ G H _ hs hw fun v d n' G' H' ⟨es, e, h'⟩ t w x => by
    subst e
    obtain ⟨a, us, rfl, ga, ka⟩ := dt_tuple.mp x
    refine ⟨a, rfl, ⟨us, .inl (.inl (w.s _ _ ga))⟩, q _ es n' G' H' h' t w ?_⟩
    intro i G2 H2 n2 s2 w2
    have hS : SqT K H2 a us := .inl (.inl (w2.s _ _ (s2 _ _ ga)))
    refine ⟨fun hi => ?_, fun hi => ⟨us, hS, by rw [ka.length]; exact hi⟩⟩
    obtain ⟨y, ey, dy⟩ := ka.get (List.getElem?_eq_getElem hi)
    refine ⟨⟨us, y, hS, ey⟩, fun z H3 hz => ?_⟩
    obtain ⟨e1, e2⟩ := hz
    subst e1
    have e3 : y = z := Option.some.inj (ey.symm.trans (e2 us hS))
    subst e3
    exact ⟨es[i], G2, List.getElem?_eq_getElem hi, .refl, w2, Dt.mono s2 _ _ dy⟩
theorem rng_walks {G1 : Hp} {lo : Int} {k : Nat} : Walks m G1 (Itr lo k) ((List.range k).map fun (i : Nat) => PyData.int (lo + (i : Int))) := by
  intro i G H n s w
  have hl : ((List.range k).map fun (i : Nat) => PyData.int (lo + (i : Int))).length = k := by simp
  refine ⟨fun hi => ⟨by rw [hl] at hi; exact hi, fun x H' hx => ?_⟩, fun hi => by rw [hl] at hi; exact hi⟩
  obtain ⟨e1, e2⟩ := hx
  subst e1 e2
  rw [hl] at hi
  exact ⟨.int (lo + i), G, by simp [hi], .refl, w, dt_int.mpr rfl⟩
theorem wi_rng1 {ta : TA} {P : List PyData → Nat → Prop} (h : WA m ta l n fun ds n' => ∃ j : Int, ds = [.int j] ∧ (-(2 ^ 62) ≤ j ∧ j < 2 ^ 62) ∧ P ((List.range j.toNat).map fun (i : Nat) => PyData.int (0 + (i : Int))) n') : WI m (iRng1 ta) l n P := fun B σ G H R hs hw q =>
  h B σ G H _ hs hw fun vs ds n' G' H' ⟨j, e, ⟨h1, h2⟩, h'⟩ t w x => by
    subst e
    obtain ⟨v, rfl, k⟩ := x.v1
    rw [dt_int.mp k]
    exact ⟨j, rfl, h1, h2, q _ _ n' G' H' h' t w rng_walks⟩
theorem wi_rng2 {ta : TA} {P : List PyData → Nat → Prop} (h : WA m ta l n fun ds n' => ∃ i j : Int, ds = [.int i, .int j] ∧ (-(2 ^ 62) ≤ i ∧ i < 2 ^ 62 ∧ -(2 ^ 62) ≤ j ∧ j < 2 ^ 62) ∧ P ((List.range (j - i).toNat).map fun (k : Nat) => PyData.int (i + (k : Int))) n') :
    WI m (iRng2 ta) l n P := fun B σ G H R hs hw q =>
  h B σ G H _ hs hw fun vs ds n' G' H' ⟨i, j, e, hb, h'⟩ t w x => by
    subst e
    obtain ⟨v, u, rfl, k1, k2⟩ := x.v2
    rw [dt_int.mp k1, dt_int.mp k2]
    exact ⟨i, j, rfl, hb, q _ _ n' G' H' h' t w rng_walks⟩
def pairD (a b : PyData) : PyData := .tuple [a, b]
theorem wi_zip {K : PySem.W.Frag} {ta : TA} {P : List PyData → Nat → Prop} (h : WA m ta l n fun ds n' => ∃ es fs, (ds = [.list es, .list fs] ∨ ds = [.tuple es, .tuple fs]) ∧ P (List.zipWith pairD es fs) n') : WI m (RZ.iZipA K ta) l n P := fun B σ G H R hs hw q =>
  h B σ G H _ hs hw fun vs ds n' G' H' ⟨es, fs, e, h'⟩ t w x => by
    rcases e with e | e
    · subst e
      obtain ⟨v, u, rfl, k1, k2⟩ := x.v2
      obtain ⟨a, us, rfl, ga, ka⟩ := dt_list.mp k1
      obtain ⟨b, ws, rfl, gb, kb⟩ := dt_list.mp k2
      refine ⟨a, b, us, ws, rfl, .inl ⟨.inl (.inl (w.s _ _ ga)), .inl (.inl (w.s _ _ gb)), q _ _ n' G' H' h' t w ?_⟩⟩
      intro i G2 H2 n2 s2 w2
      have hS : SqL K H2 a us := .inl (.inl (w2.s _ _ (s2 _ _ ga)))
      have hU : SqL K H2 b ws := .inl (.inl (w2.s _ _ (s2 _ _ gb)))
      refine ⟨fun hi => ?_, fun hi => ⟨us, ws, hS, hU, ?_⟩⟩
      · rw [List.length_zipWith] at hi
        obtain ⟨y, ey, dy⟩ := ka.get (List.getElem?_eq_getElem (show i < es.length by omega))
        obtain ⟨z, ez, dz⟩ := kb.get (List.getElem?_eq_getElem (show i < fs.length by omega))
        refine ⟨⟨us, ws, y, z, hS, hU, ey, ez⟩, fun p H3 hp => ?_⟩
        obtain ⟨T, x1, x2, rfl, hT, rfl, f1, f2⟩ := hp
        have e1 : y = x1 := Option.some.inj (ey.symm.trans (f1 us hS))
        have e2 : z = x2 := Option.some.inj (ez.symm.trans (f2 ws hU))
        subst e1 e2
        refine ⟨pairD (es[i]'(by omega)) (fs[i]'(by omega)), _, ?_, (tr_new w2.s hT).any, w2.any (tr_new w2.s hT) (sm_new w2.s), ?_⟩
        · rw [List.getElem?_zipWith, List.getElem?_eq_getElem (show i < es.length by omega), List.getElem?_eq_getElem (show i < fs.length by omega)]
        · have sn := same_new (o := HO.tup [y, z]) (w2.s.free hT)
          exact dt_tuple.mpr ⟨T, _, rfl, upd_same, .two (Dt.mono (s2.trans sn) _ _ dy) (Dt.mono (s2.trans sn) _ _ dz)⟩
      · rw [List.length_zipWith] at hi
        rw [ka.length, kb.length]
        omega
    · subst e
      obtain ⟨v, u, rfl, k1, k2⟩ := x.v2
      obtain ⟨a, us, rfl, ga, ka⟩ := dt_tuple.mp k1
      obtain ⟨b, ws, rfl, gb, kb⟩ := dt_tuple.mp k2
      refine ⟨a, b, us, ws, rfl, .inr ⟨.inl (.inl (w.s _ _ ga)), .inl (.inl (w.s _ _ gb)), q _ _ n' G' H' h' t w ?_⟩⟩
      intro i G2 H2 n2 s2 w2
      have hS : SqT K H2 a us := .inl (.inl (w2.s _ _ (s2 _ _ ga)))
      have hU : SqT K H2 b ws := .inl (.inl (w2.s _ _ (s2 _ _ gb)))
      refine ⟨fun hi => ?_, fun hi => ⟨us, ws, hS, hU, ?_⟩⟩
      · rw [List.length_zipWith] at hi
        obtain ⟨y, ey, dy⟩ := ka.get (List.getElem?_eq_getElem (show i < es.length by omega))
        obtain ⟨z, ez, dz⟩ := kb.get (List.getElem?_eq_getElem (show i < fs.length by omega))
        refine ⟨⟨us, ws, y, z, hS, hU, ey, ez⟩, fun p H3 hp => ?_⟩
        obtain ⟨T, x1, x2, rfl, hT, rfl, f1, f2⟩ := hp
        have e1 : y = x1 := Option.some.inj (ey.symm.trans (f1 us hS))
        have e2 : z = x2 := Option.some.inj (ez.symm.trans (f2 ws hU))
        subst e1 e2
        refine ⟨pairD (es[i]'(by omega)) (fs[i]'(by omega)), _, ?_, (tr_new w2.s hT).any, w2.any (tr_new w2.s hT) (sm_new w2.s), ?_⟩
        · rw [List.getElem?_zipWith, List.getElem?_eq_getElem (show i < es.length by omega), List.getElem?_eq_getElem (show i < fs.length by omega)]
        · have sn := same_new (o := HO.tup [y, z]) (w2.s.free hT)
          exact dt_tuple.mpr ⟨T, _, rfl, upd_same, .two (Dt.mono (s2.trans sn) _ _ dy) (Dt.mono (s2.trans sn) _ _ dz)⟩
      · rw [List.length_zipWith] at hi
        rw [ka.length, kb.length]
        omega

theorem WI.t {wi : TI} {P : List PyData → Nat → Prop} (h : WI m wi l n P) : WIT m wi l n P := fun B σ G H R hs hw q => h B σ G H R hs hw fun J ds n' G' H' p t w wk => q J ds n' G' H' p t w fun i G2 H2 n2 t2 w2 => wk i G2 H2 n2 t2.g w2

/-! ### targets -/
structure TgD (g : TG) (vs : List Nat) (f : List Sl → PyData → List Sl) (ok : PyData → Prop) : Prop where
  run : ∀ (m : Option Addr) (n : Nat) (B G H : Hp) (σ : Sg) (l : List Sl) (x : V) (d : PyData) (Q : Sg → Hp → Prop), StD m B G H σ l → Wk m n G H → Dt G d x → ok d → (∀ σ' : Sg, StD m B G H σ' (f l d) → wipe σ' vs = wipe σ vs → Q σ' H) → g x σ H Q
theorem tg_name (i : Nat) : TgD (gName i) [i] (fun l d => l.set i (.d d)) (fun _ => True) := ⟨fun m n B G H σ l x d Q hs _ hx _ q => q _ (hs.setD hx) (by
  show (σ.set i (some x)).set i none = σ.set i none
  rw [List.set_set])⟩
def pairS (i j : Nat) (l : List Sl) : PyData → List Sl
  | .tuple [a, b] => (l.set i (.d a)).set j (.d b)
  | _ => l
theorem tg_pair {K : PySem.W.Frag} {i j : Nat} (hij : i ≠ j) : TgD (gTup K 2 (gCons (gName i) (gCons (gName j) gNil))) [i, j] (pairS i j) (fun d => ∃ a b, d = .tuple [a, b]) := ⟨fun m n B G H σ l x d Q hs hw hx hok q => by
  obtain ⟨a, b, rfl⟩ := hok
  obtain ⟨p, us, rfl, gp, k⟩ := dt_tuple.mp hx
  obtain ⟨v, u, rfl, k1, k2⟩ := k.v2
  refine ⟨p, _, rfl, .inl (.inl (hw.s _ _ gp)), rfl, v, [u], rfl, u, [], rfl, rfl, q _ ((hs.setD k1).setD k2) ?_⟩
  show (((σ.set i (some v)).set j (some u)).set j none).set i none = (σ.set j none).set i none
  rw [List.set_set, List.set_comm _ _ (Ne.symm hij), List.set_set, List.set_comm _ _ hij]
  ⟩
theorem wipe_mem {σ : Sg} : ∀ {vs : List Nat} {i : Nat}, i ∈ vs → (wipe σ vs).set i none = wipe σ vs
  | [], _, h => by cases h
  | v :: vs, i, h => by
    show ((wipe σ vs).set v none).set i none = (wipe σ vs).set v none
    by_cases e : i = v
    · subst e
      rw [List.set_set]
    · have hi : i ∈ vs := by
        rcases List.mem_cons.mp h with q | q
        · exact absurd q e
        · exact q
      rw [List.set_comm _ _ (Ne.symm e), wipe_mem hi]
theorem wipe_wipe (σ : Sg) (ws : List Nat) : ∀ {vs : List Nat}, (∀ i ∈ vs, i ∈ ws) → wipe (wipe σ ws) vs = wipe σ ws
  | [], _ => rfl
  | v :: vs, h => by
    show (wipe (wipe σ ws) vs).set v none = wipe σ ws
    rw [wipe_wipe σ ws fun i hi => h i (List.mem_cons_of_mem _ hi), wipe_mem (h v List.mem_cons_self)]

/-! ### comprehensions -/
def Lc (m : Option Addr) (te : TE) (f : List Sl → PyData → List Sl) (l0 : List Sl) : List PyData → List PyData → Nat → (List PyData → Nat → Prop) → Prop
  | [], acc, n, Ψ => Ψ acc n
  | d :: ds, acc, n, Ψ => WE m te (f l0 d) n fun y n' => Lc m te f l0 ds (acc ++ [y]) n' Ψ
theorem we_lc {wi : TI} {g : TG} {te : TE} {vs : List Nat} {f : List Sl → PyData → List Sl} {ok : PyData → Prop} (tg : TgD g vs f ok)
    (h : WIT m wi l n fun ds n' => ds.length ≤ 1000 ∧ (∀ d ∈ ds, ok d) ∧ Lc m te f (wipeL l vs) ds [] n' fun out n2 => Φ (.list out) n2) : WE m (tLc wi g tYes te vs) l n Φ := fun B σ G H Q hs hw q =>
  h B σ G H _ hs hw fun J ds n1 G1 H1 ⟨hlen, hok, hlc⟩ t1 w1 wk D hD => by
    have hm : m ≠ some D := w1.ne hD
    have g1 : G1 D = none := w1.s.free hD
    refine ⟨fun i k H2 => k = ds.length - i ∧ i ≤ ds.length ∧ ∃ (G2 : Hp) (n2 : Nat) (acc : List PyData) (us : List V), Tr m G1 H1 G2 H2 ∧ Wk m n2 G2 H2 ∧ G2 D = none ∧ H2 D = some (.lst us) ∧ DtAll G2 acc us ∧ acc.length = i ∧
      Lc m te f (wipeL l vs) (ds.drop i) acc n2 fun out n2 => Φ (.list out) n2, ⟨ds.length, rfl, Nat.zero_le _, G1, n1, [], [], Tr.refl.put hD, w1.put g1 hm, g1, upd_same, dta_nil.mpr rfl, rfl, hlc⟩, ?_⟩
    rintro i k H2 ⟨rfl, hi, G2, n2, acc, us, t2, w2, gD, hD2, ka, hacc, hl⟩
    by_cases hlt : i < ds.length
    · obtain ⟨go, yl⟩ := (wk i G2 H2 n2 t2 w2).1 hlt
      refine .inr ⟨go, _, fun H' hN => ⟨ds.length - (i + 1), by omega, rfl, hlt, hN⟩, fun x H3 hy => ?_⟩
      obtain ⟨d, G3, hd, t3, w3, x3⟩ := yl x H3 hy
      have hdr : ds.drop i = d :: ds.drop (i + 1) := by
        rw [List.drop_eq_getElem_cons hlt]
        rw [List.getElem?_eq_getElem hlt] at hd
        rw [Option.some.inj hd]
      rw [hdr] at hl
      refine tg.run m n2 B G3 H3 (wipe σ vs) (wipeL l vs) x d _ ((hs.step ((t1.trans t2).trans t3)).wipe vs) w3 x3 (hok d (List.mem_of_getElem? hd)) fun σ2 hs2 hw2 => ⟨?_, ?_⟩
      · rw [hw2]
        exact wipe_wipe σ vs fun _ h => h
      · show te σ2 H3 _
        refine hl B σ2 G3 H3 _ hs2 w3 fun y dy n4 G4 H4 h4 t4 w4 x4 => ?_
        have T : Tr m G1 H1 G4 H4 := t2.trans (t3.trans t4)
        have nz : H2 D ≠ none := by rw [hD2]; intro z; cases z
        have g4 : G4 D = none := ((t3.trans t4).f D nz).trans gD
        refine ⟨us, (t3.trans t4).k D _ hm hD2, by rw [ka.length, hacc]; exact small1000 (by omega), G4, n4, acc ++ [dy], us ++ [y], T.put hD, w4.put g4 hm, g4, upd_same, (DtAll.mono (t3.trans t4).g _ _ ka).app (.one x4), by rw [List.length_append, hacc]; rfl, h4⟩
    · have e : i = ds.length := by omega
      subst e
      refine .inl ⟨(wk ds.length G2 H2 n2 t2 w2).2 (Nat.le_refl _), ?_⟩
      rw [List.drop_length] at hl
      exact q _ (.list acc) n2 (upd G2 D (.lst us)) H2 hl (t1.trans (t2.seal hD g1)) (w2.seal hD2 hm) (dt_list.mpr ⟨D, us, rfl, upd_same, ka.newD gD⟩)
theorem lc_map {te : TE} {f : List Sl → PyData → List Sl} {l0 : List Sl} {g : PyData → PyData} : ∀ {ds acc : List PyData} {n : Nat} {Ψ : List PyData → Nat → Prop}, (∀ d ∈ ds, ∀ (n : Nat) (Φ : PyP), Φ (g d) n → WE m te (f l0 d) n Φ) → Ψ (acc ++ ds.map g) n → Lc m te f l0 ds acc n Ψ
  | [], acc, n, Ψ, _, h => by
    rw [List.map_nil, List.append_nil] at h
    exact h
  | d :: ds, acc, n, Ψ, k, h => k d List.mem_cons_self n _ (lc_map (fun e he => k e (List.mem_cons_of_mem _ he)) (by
      rw [List.append_assoc]
      exact h))
/-- each step draws c times at most, its value is as P says -/
theorem lc_any {te : TE} {f : List Sl → PyData → List Sl} {l0 : List Sl} {P : PyData → Prop} {c : Nat} : ∀ {ds acc : List PyData} {n : Nat} {Ψ : List PyData → Nat → Prop},
    (∀ d ∈ ds, ∀ (n' : Nat) (Φ : PyP), n' + c ≤ n + ds.length * c → (∀ y, P y → Φ y (n' + c)) → WE m te (f l0 d) n' Φ) → (∀ out : List PyData, out.length = ds.length → (∀ y ∈ out, P y) → Ψ (acc ++ out) (n + ds.length * c)) → Lc m te f l0 ds acc n Ψ
  | [], acc, n, Ψ, _, h => by
    have := h [] rfl (by simp)
    rw [List.append_nil, List.length_nil, Nat.zero_mul, Nat.add_zero] at this
    exact this
  | d :: ds, acc, n, Ψ, k, h => by
    have e : (d :: ds).length * c = ds.length * c + c := by rw [List.length_cons, Nat.add_mul, Nat.one_mul]
    refine k d List.mem_cons_self n _ (by omega) fun y hy => lc_any (fun d' hd' n' Φ hn' q => k d' (List.mem_cons_of_mem _ hd') n' Φ (by omega) q) fun out ho hp => ?_
    have := h (y :: out) (by simp [ho]) (fun z hz => by
      rcases List.mem_cons.mp hz with q | q
      · rw [q]; exact hy
      · exact hp z q)
    rw [List.append_assoc]
    rw [e] at this
    rw [show n + c + ds.length * c = n + (ds.length * c + c) by omega]
    exact this

/-! ### statements -/
variable {Ψ : List Sl → Nat → Prop} {R : PyP}
theorem ws_next (h : Ψ l n) : WS m tNext l n Ψ R := fun G0 B σ G H D h0 hs hw hn _ => hn σ l n G H h (Same.refl _) h0 hw hs
theorem ws_seq {t u : TS} (h : WS m t l n (fun l' n' => WS m u l' n' Ψ R) R) : WS m (tSeq t u) l n Ψ R := fun G0 B σ G H D h0 hs hw hn hr =>
  h G0 B σ G H { D with nx := u D } h0 hs hw (fun σ1 l1 n1 G1 H1 h1 e1 t1 w1 s1 => h1 G0 B σ1 G1 H1 D t1 s1 w1 (fun σ2 l2 n2 G2 H2 h2 e2 t2 w2 s2 => hn σ2 l2 n2 G2 H2 h2 (e1.trans e2) t2 w2 s2) hr) hr
theorem ws_ret {te : TE} (h : WE m te l n R) : WS m (tRet te) l n Ψ R := fun G0 B σ G H D h0 hs hw _ hr => h B σ G H D.rt hs hw (hr.step h0)
theorem ws_if {tt : TT} {t u : TS} (h : WT m tt l n fun b n' => (b = true → WS m t l n' Ψ R) ∧ (b = false → WS m u l n' Ψ R)) : WS m (tIfS tt t u) l n Ψ R := fun G0 B σ G H D h0 hs hw hn hr =>
  h B σ G H _ hs hw fun b n1 G1 H1 h1 t1 w1 => by
    have hn1 : ∀ σ' l' n' G' H', Ψ l' n' → Same G1 G' → Tr m G0 B G' H' → Wk m n' G' H' → StD m B G' H' σ' l' → D.nx σ' H' := fun σ2 l2 n2 G2 H2 h2 e2 t2 w2 s2 => hn σ2 l2 n2 G2 H2 h2 (t1.g.trans e2) t2 w2 s2
    cases b with
    | true => exact iteT (h1.1 rfl G0 B σ G1 H1 D (h0.trans t1) (hs.step t1) w1 hn1 hr)
    | false => exact iteF (h1.2 rfl G0 B σ G1 H1 D (h0.trans t1) (hs.step t1) w1 hn1 hr)
theorem ws_asg {te : TE} {g : TG} {vs : List Nat} {f : List Sl → PyData → List Sl} {ok : PyData → Prop} (tg : TgD g vs f ok) (h : WE m te l n fun d n' => ok d ∧ Ψ (f l d) n') : WS m (tAsg te g) l n Ψ R := fun G0 B σ G H D h0 hs hw hn _ =>
  h B σ G H _ hs hw fun v d n1 G1 H1 ⟨hok, h1⟩ t1 w1 x1 => tg.run m n1 B G1 H1 σ l v d _ (hs.step t1) w1 x1 hok fun σ' s' _ => hn σ' _ n1 G1 H1 h1 t1.g (h0.trans t1) w1 s'
theorem ws_set {te : TE} {i : Nat} (h : WE m te l n fun d n' => Ψ (l.set i (.d d)) n') : WS m (tAsg te (gName i)) l n Ψ R := ws_asg (tg_name i) (h.imp fun _ _ q => ⟨trivial, q⟩)
theorem ws_par {ta : TA} {i j : Nat} (h : WA m ta l n fun ds n' => ∃ a b, ds = [a, b] ∧ Ψ ((l.set i (.d a)).set j (.d b)) n') : WS m (tPar i j ta) l n Ψ R := fun G0 B σ G H D h0 hs hw hn _ =>
  h B σ G H _ hs hw fun vs ds n1 G1 H1 ⟨a, b, e, h1⟩ t1 w1 x1 => by
    subst e
    obtain ⟨v, u, rfl, k1, k2⟩ := x1.v2
    exact ⟨v, u, rfl, hn _ _ n1 G1 H1 h1 t1.g (h0.trans t1) w1 (((hs.step t1).setD k1).setD k2)⟩
def Fr (m : Option Addr) (tb : TS) (f : List Sl → PyData → List Sl) (Ψ : List Sl → Nat → Prop) (R : PyP) : List PyData → List Sl → Nat → Prop
  | [], l, n => Ψ l n
  | d :: ds, l, n => WS m tb (f l d) n (fun l' n' => Fr m tb f Ψ R ds l' n') R
theorem ws_for {wi : TI} {g : TG} {tb : TS} {vs : List Nat} {f : List Sl → PyData → List Sl} {ok : PyData → Prop} (tg : TgD g vs f ok) (h : WI m wi l n fun ds n' => (∀ d ∈ ds, ok d) ∧ Fr m tb f Ψ R ds l n') : WS m (tFor wi g tb) l n Ψ R := fun G0 B σ G H D h0 hs hw hn hr =>
  h B σ G H _ hs hw fun J ds n1 G1 H1 ⟨hok, hfr⟩ t1 w1 wk => by
    refine ⟨fun i k σ2 H2 => k = ds.length - i ∧ i ≤ ds.length ∧ ∃ (G2 : Hp) (n2 : Nat) (l2 : List Sl), Same G1 G2 ∧ Tr m G0 B G2 H2 ∧ Wk m n2 G2 H2 ∧ StD m B G2 H2 σ2 l2 ∧ Fr m tb f Ψ R (ds.drop i) l2 n2, ⟨ds.length, rfl, Nat.zero_le _, G1, n1, l, Same.refl _, h0.trans t1, w1, hs.step t1, hfr⟩, ?_⟩
    rintro i k σ2 H2 ⟨rfl, hi, G2, n2, l2, e2, t2, w2, s2, hl⟩
    by_cases hlt : i < ds.length
    · obtain ⟨go, yl⟩ := (wk i G2 H2 n2 e2 w2).1 hlt
      refine .inr ⟨go, _, fun σ' H' hN => ⟨ds.length - (i + 1), by omega, rfl, hlt, hN⟩, fun x H3 hy => ?_⟩
      obtain ⟨d, G3, hd, t3, w3, x3⟩ := yl x H3 hy
      have hdr : ds.drop i = d :: ds.drop (i + 1) := by
        rw [List.drop_eq_getElem_cons hlt]
        rw [List.getElem?_eq_getElem hlt] at hd
        rw [Option.some.inj hd]
      rw [hdr] at hl
      refine tg.run m n2 B G3 H3 σ2 l2 x d _ (s2.step t3) w3 x3 (hok d (List.mem_of_getElem? hd)) fun σ3 s3 _ => ?_
      exact hl G0 B σ3 G3 H3 _ (t2.trans t3) s3 w3 (fun σ4 l4 n4 G4 H4 h4 e4 t4 w4 s4 => ⟨G4, n4, l4, e2.trans (t3.g.trans e4), t4, w4, s4, h4⟩) hr
    · have e : i = ds.length := by omega
      subst e
      refine .inl ⟨(wk ds.length G2 H2 n2 e2 w2).2 (Nat.le_refl _), ?_⟩
      rw [List.drop_length] at hl
      exact hn σ2 l2 n2 G2 H2 hl (t1.g.trans e2) t2 w2 s2
theorem ws_while {tc : TT} {tb : TS} (I : Nat → List Sl → Nat → Prop) {k0 : Nat} (hI0 : I k0 l n)
    (step : ∀ k l n, I k l n → WT m tc l n fun b n1 => (b = true → WS m tb l n1 (fun l' n' => ∃ k', k' < k ∧ I k' l' n') R) ∧ (b = false → Ψ l n1)) : WS m (tWhile tc tb) l n Ψ R := fun G0 B σ G H D h0 hs hw hn hr => by
  refine ⟨fun k σ2 H2 => ∃ (G2 : Hp) (n2 : Nat) (l2 : List Sl), Same G G2 ∧ Tr m G0 B G2 H2 ∧ Wk m n2 G2 H2 ∧ StD m B G2 H2 σ2 l2 ∧ I k l2 n2, ⟨k0, G, n, l, Same.refl _, h0, hw, hs, hI0⟩, ?_⟩
  rintro k σ2 H2 ⟨G2, n2, l2, e2, t2, w2, s2, hI⟩
  refine step k l2 n2 hI B σ2 G2 H2 _ s2 w2 fun b n3 G3 H3 h3 t3 w3 => ?_
  cases b with
  | true =>
    refine iteT ⟨_, fun σ' H' hN => hN, ?_⟩
    exact h3.1 rfl G0 B σ2 G3 H3 _ (t2.trans t3) (s2.step t3) w3 (fun σ4 l4 n4 G4 H4 ⟨k', hk, h4⟩ e4 t4 w4 s4 => ⟨k', hk, G4, n4, l4, e2.trans (t3.g.trans e4), t4, w4, s4, h4⟩) hr
  | false => exact iteF (hn σ2 l2 n3 G3 H3 (h3.2 rfl) (e2.trans t3.g) (t2.trans t3) w3 (s2.step t3))

/-! ### defs -/
/-- a def of data: R tells what of the arguments brings what is wanted of the answer -/
def spD (ar : Nat) (R : List PyData → (PyData → Prop) → Prop) : Sp := fun vs H Q _ => ∃ (G : Hp) (ds : List PyData) (Φ : PyData → Prop), ds.length = ar ∧ Same G H ∧ DtAll G ds vs ∧ R ds Φ ∧
  ∀ v d G' H', Φ d → Tr none G H G' H' → Same G' H' → Dt G' d v → Q v H'
theorem spD_len {ar : Nat} {R : List PyData → (PyData → Prop) → Prop} {vs : List V} {H : Hp} {Q : VK} {E : XK} (h : spD ar R vs H Q E) : vs.length = ar := by
  obtain ⟨G, ds, Φ, e, _, x, _⟩ := h
  rw [x.length, e]
theorem we_call {ar : Nat} {F : List PyData → (PyData → Prop) → Prop} {E : XK} {ta : TA} (h : WA m ta l n fun ds n' => ds.length = ar ∧ F ds fun d => Φ d n') : WE m (tCall (spD ar F) [] E ta) l n Φ := fun B σ G H Q hs hw q =>
  h B σ G H _ hs hw fun vs ds n1 G1 H1 ⟨hl, hR⟩ t1 w1 x1 => by
    show spD ar F (vs ++ []) H1 Q E
    rw [List.append_nil]
    exact ⟨G1, ds, _, hl, w1.s, x1, hR, fun v d G' H' hΦ t2 s2 x2 => q v d n1 G' H' hΦ (t1.trans t2.any) (w1.any t2 s2) x2⟩
/-- the slots at the entry -/
def l0 (ds : List PyData) (k : Nat) : List Sl := ds.map Sl.d ++ List.replicate k .un
theorem st_start {B G H : Hp} {N : List Str} {vs : List V} {ds : List PyData} (x : DtAll G ds vs) : StD m B G H (L2.start N vs) (l0 ds (N.length - ds.length)) := by
  have hl := x.length
  refine ⟨?_, fun i s o a b => ?_⟩
  · unfold L2.start l0
    rw [List.length_append, List.length_append, List.length_map, List.length_map, List.length_replicate, List.length_replicate, hl]
  · unfold L2.start at b
    unfold l0 at a
    by_cases hi : i < ds.length
    · rw [List.getElem?_append_left (by simpa using hi), List.getElem?_map, List.getElem?_eq_getElem hi] at a
      rw [List.getElem?_append_left (by simpa [hl] using hi), List.getElem?_map] at b
      obtain ⟨v, ev, dv⟩ := x.get (List.getElem?_eq_getElem hi)
      rw [ev] at b
      cases a
      cases b
      exact ⟨v, rfl, dv⟩
    · rw [List.getElem?_append_right (by simpa using hi), List.getElem?_replicate] at a
      split at a
      · cases a
        trivial
      · cases a
theorem fn_D {t : TS} {N : List Str} {ar : Nat} {F : List PyData → (PyData → Prop) → Prop} {vs : List V} {H : Hp} {Q : VK} {E : XK} (h : spD ar F vs H Q E)
    (body : ∀ (ds : List PyData) (Φ : PyData → Prop), ds.length = ar → F ds Φ → WS none t (l0 ds (N.length - ds.length)) 0 (fun _ _ => False) (fun d _ => Φ d)) : t { nx := fun _ H' => Q .non H', rt := Q } (L2.start N vs) H := by
  obtain ⟨G, ds, Φ, e, s, x, hR, q⟩ := h
  exact body ds Φ e hR G H _ G H _ .refl (st_start x) ⟨s, fun _ e => nomatch e⟩ (fun _ _ _ _ _ z => z.elim) fun v d n' G' H' h' t' w' x' => q v d G' H' h' t' w'.s x'
/-- a def that draws: its first argument is the draws; at most c draws -/
def spT (c ar : Nat) (R : List PyData → (PyData → Prop) → Prop) : Sp := fun vs H Q _ => ∃ (t : Addr) (us : List V) (G : Hp) (ds : List PyData) (n : Nat) (Φ : PyData → Prop), vs = .ref t :: us ∧ ds.length = ar ∧ Wk (some t) n G H ∧ n + c ≤ 2 ^ 60 ∧ DtAll G ds us ∧ R ds Φ ∧
  ∀ v d G' H', Φ d → Tr (some t) G H G' H' → Wk (some t) (n + c) G' H' → Dt G' d v → Q v H'
theorem spT_len {c ar : Nat} {R : List PyData → (PyData → Prop) → Prop} {vs : List V} {H : Hp} {Q : VK} {E : XK} (h : spT c ar R vs H Q E) : vs.length = ar + 1 := by
  obtain ⟨t, us, G, ds, n, Φ, rfl, e, _, _, x, _⟩ := h
  rw [List.length_cons, x.length, e]
theorem we_callT {c ar i : Nat} {F : List PyData → (PyData → Prop) → Prop} {E : XK} {ta : TA} (hi : l[i]? = some .tin) (h : WA m ta l n fun ds n' => ds.length = ar ∧ n' + c ≤ 2 ^ 60 ∧ F ds fun d => Φ d (n' + c)) : WE m (tCall (spT c ar F) [] E (tCons (tVar i) ta)) l n Φ := fun B σ G H Q hs hw q => by
  obtain ⟨t, em, et⟩ := hs.tin hi
  subst em
  refine ⟨.ref t, et, ?_⟩
  refine h B σ G H _ hs hw fun vs ds n1 G1 H1 ⟨hl, hn, hR⟩ t1 w1 x1 => ?_
  show spT c ar F ((.ref t :: vs) ++ []) H1 Q E
  rw [List.append_nil]
  exact ⟨t, vs, G1, ds, n1, _, rfl, hl, w1, hn, x1, hR, fun v d G' H' hΦ t2 w2 x2 => q v d _ G' H' hΦ (t1.trans t2) w2 x2⟩
theorem fn_T {t : TS} {N : List Str} {c ar : Nat} {F : List PyData → (PyData → Prop) → Prop} {vs : List V} {H : Hp} {Q : VK} {E : XK} (h : spT c ar F vs H Q E)
    (body : ∀ (a : Addr) (ds : List PyData) (n : Nat) (Φ : PyData → Prop), ds.length = ar → n + c ≤ 2 ^ 60 → F ds Φ → WS (some a) t (.tin :: l0 ds (N.length - (ds.length + 1))) n (fun _ _ => False) (fun d n' => Φ d ∧ n' ≤ n + c)) : t { nx := fun _ H' => Q .non H', rt := Q } (L2.start N vs) H := by
  obtain ⟨a, us, G, ds, n, Φ, rfl, e, w, hn, x, hR, q⟩ := h
  have hst : StD (some a) H G H (L2.start N (.ref a :: us)) (.tin :: l0 ds (N.length - (ds.length + 1))) := by
    have hl := x.length
    refine ⟨?_, fun i s o p b => ?_⟩
    · unfold L2.start l0
      rw [List.length_append, List.length_map, List.length_cons, List.length_cons, List.length_append, List.length_map, List.length_replicate, List.length_replicate, hl]
      omega
    · cases i with
      | zero =>
        cases p
        cases b
        exact ⟨a, rfl, rfl⟩
      | succ j =>
        have p' : (l0 ds (N.length - (ds.length + 1)))[j]? = some s := p
        have b' : (us.map some ++ List.replicate (N.length - (us.length + 1)) none)[j]? = some o := b
        unfold l0 at p'
        by_cases hi : j < ds.length
        · rw [List.getElem?_append_left (by simpa using hi), List.getElem?_map, List.getElem?_eq_getElem hi] at p'
          rw [List.getElem?_append_left (by simpa [hl] using hi), List.getElem?_map] at b'
          obtain ⟨v, ev, dv⟩ := x.get (List.getElem?_eq_getElem hi)
          rw [ev] at b'
          cases p'
          cases b'
          exact ⟨v, rfl, dv⟩
        · rw [List.getElem?_append_right (by simpa using hi), List.getElem?_replicate] at p'
          split at p'
          · cases p'
            trivial
          · cases p'
  exact body a ds n Φ e hn hR G H _ G H _ .refl hst w (fun _ _ _ _ _ z => z.elim) fun v d n' G' H' h' t' w' x' => q v d G' H' h'.1 t' (w'.mono h'.2) x'
end
end BW

set_option Elab.async false
set_option linter.all false
set_option maxRecDepth 100000
set_option maxHeartbeats 4000000
/-! Two constructs that the layer lacks: t[a::-1] of a tuple; X() of an own exception class, no arguments. -/
namespace HT
open PySem PySem.Spec PyProof.Rows L2
/-- how many items t[lo::-1] has -/
def bk (n : Nat) : Option Int → Nat
  | none => n
  | some v => if v < 0 then (v + (n : Int) + 1).toNat else min (v.toNat + 1) n
theorem bk_le (n : Nat) (o : Option Int) : bk n o ≤ n := by
  cases o with
  | none => exact Nat.le_refl _
  | some v =>
    show (if v < 0 then (v + (n : Int) + 1).toNat else min (v.toNat + 1) n) ≤ n
    split <;> omega
theorem adjust_back (lo : Option Int) (n : Nat) : Builtin.Slice.sliceAdjust lo none (-1) (n : Int) = (((bk n lo : Nat) : Int) - 1, -1) := by
  have h1 : ((-1 : Int) < 0) := by omega
  unfold Builtin.Slice.sliceAdjust
  simp only [h1, if_true]
  refine Prod.ext ?_ rfl
  cases lo with
  | none => rfl
  | some v =>
    show (if v < 0 then max (v + (n : Int)) (-1) else min v ((n : Int) - 1)) = (((if v < 0 then (v + (n : Int) + 1).toNat else min (v.toNat + 1) n : Nat)) : Int) - 1
    split <;> omega
theorem places_back (k : Nat) : Builtin.Slice.slicePlaces (((k : Nat) : Int) - 1) (-1) (-1) = k := by
  unfold Builtin.Slice.slicePlaces
  have h1 : ¬ ((-1 : Int) > 0) := by omega
  simp only [h1, if_false]
  have e : (- -1 : Int) = 1 := by decide
  rw [e, Int.ediv_one]
  split <;> omega
section
variable {prog : Program} {w : World} {A : Around} {E : Value → Shared → Prop} {s : Shared}
theorem sliceApplied_back {sl : Addr} {vl vs : Value} {lo : Option Int} {n : Nat} {Q : Int × Int × Nat → Shared → Prop} (hs : s.heap.IsSliceOf sl vl .none vs) (pl : IsPart vl lo) (ps : IsPart vs (some (-1)))
    (h : Q (((bk n lo : Nat) : Int) - 1, -1, bk n lo) s) : wpAny (model prog w) A (Builtin.Slice.sliceApplied (.ref sl) (pure (n : Int))) Q E s := by
  obtain ⟨os, hos, hcs, hds⟩ := id hs
  unfold Builtin.Slice.sliceApplied Builtin.Slice.sliceFields
  refine wpAny_bind (wpAny_bind (wpAny_field hos hds (x := vl) rfl (wpAny_bind (wpAny_field hos hds (x := .none) rfl (wpAny_bind (wpAny_field hos hds (x := vs) rfl (wpAny_pure ?_)))))))
  refine wpAny_bind (slicePart_ ps ?_)
  show wpAny _ _ (if ((-1 : Int) == 0) = true then _ else _) _ _ s
  rw [if_neg (by decide)]
  refine wpAny_bind (slicePart_ pl (wpAny_bind (slicePart_none (wpAny_bind (wpAny_pure ?_)))))
  show wpAny _ _ (match Builtin.Slice.sliceAdjust lo none (-1) (n : Int) with | (lo, hi) => pure (lo, (-1 : Int), Builtin.Slice.slicePlaces lo hi (-1))) _ _ s
  rw [adjust_back lo n]
  show wpAny _ _ (pure (((bk n lo : Nat) : Int) - 1, (-1 : Int), Builtin.Slice.slicePlaces (((bk n lo : Nat) : Int) - 1) (-1) (-1))) _ _ s
  rw [places_back]
  exact wpAny_pure h
theorem fm_congr {α β : Type} {f g : α → Option β} : ∀ {l : List α}, (∀ x ∈ l, f x = g x) → l.filterMap f = l.filterMap g
  | [], _ => rfl
  | a :: l, h => by
    have h1 := h a List.mem_cons_self
    have h2 := fm_congr (l := l) fun x hx => h x (List.mem_cons_of_mem _ hx)
    rw [List.filterMap_cons, List.filterMap_cons, h1, h2]
theorem pick_back (xs : Array Value) (k : Nat) (hk : k ≤ xs.size) : ((List.range k).filterMap fun (m : Nat) => xs[(((k : Nat) : Int) - 1 + (m : Int) * (-1)).toNat]?) = (xs.toList.take k).reverse := by
  have e : (List.range k).filterMap (fun (m : Nat) => xs[(((k : Nat) : Int) - 1 + (m : Int) * (-1)).toNat]?) = (List.range k).map (fun m => xs.toList.getD (k - 1 - m) .none) := by
    rw [← List.filterMap_eq_map]
    apply fm_congr
    intro m hm
    have hm' := List.mem_range.mp hm
    have : (((k : Nat) : Int) - 1 + (m : Int) * (-1)).toNat = k - 1 - m := by omega
    rw [this]
    have hl : k - 1 - m < xs.size := by omega
    rw [Array.getElem?_eq_getElem hl]
    show some _ = some _
    congr 1
    show xs[k - 1 - m] = xs.toList.getD (k - 1 - m) .none
    rw [List.getD_eq_getElem?_getD, List.getElem?_eq_getElem (by simpa using hl)]
    simp
  rw [e]
  apply List.ext_getElem
  · simp
    omega
  · intro i h1 h2
    rw [List.getElem_map, List.getElem_range, List.getElem_reverse, List.getElem_take]
    simp only [List.length_map, List.length_range] at h1
    rw [List.getD_eq_getElem?_getD, List.getElem?_eq_getElem (by simp; omega)]
    simp only [Option.getD_some]
    congr 1
    simp
    omega
theorem getItem_tuple_back {t sl : Addr} {items : Array Value} {vl vs : Value} {lo : Option Int} {Q : Value → Shared → Prop} (ht : IsTup s.heap t items) (hs : s.heap.IsSliceOf sl vl .none vs) (pl : IsPart vl lo) (ps : IsPart vs (some (-1)))
    (h : Q (.ref s.heap.objs.size) { s with heap := s.heap.push { cls := .type "tuple", data := .seq ((items.toList.take (bk items.size lo)).reverse).toArray } })
    (hsz : items.size ≤ sizeLine) : wpAny (model prog w) A (getItem (.ref t) (.ref sl)) Q E s := by
  have hk := bk_le items.size lo
  have htake : sizeOk (.seq ((items.toList.take (bk items.size lo)).reverse).toArray) := by
    show ((items.toList.take (bk items.size lo)).reverse).toArray.size ≤ sizeLine
    rw [List.size_toArray, List.length_reverse, List.length_take, Array.length_toList]
    omega
  obtain ⟨os, hos, hcs, hds⟩ := id hs
  have hTs : s.TypeIs (.ref sl) "slice" := ⟨os, hos, hcs⟩
  unfold getItem
  try with_reducible refine wpAny_holding ?_
  first | refine wpAny_bind (wpAny_pure ?_) | skip
  refine wpAny_bind (wpAny_sequenceKey ht.typeIs (by decide) ?_)
  refine wpAny_bind (wpAny_callSpecial?_slot (name := Str.ofString "__getitem__") ht.typeIs PyProof.Rows.slot_tuple_getitem
    (wpAny_call_entry PyProof.Rows.slot_tuple_getitem ht.typeIs entry_tuple_getitem ?_ (args_tuple_getitem _ _)))
  show wpAny _ _ (Builtin.Tuple.tupleItemsOf (.ref t) >>= _) _ _ s
  refine wpAny_bind (tupleItemsOf_ ht ?_)
  refine wpAny_bind (wpAny_typeOf hTs ?_)
  rw [if_pos (by decide)]
  refine wpAny_bind (sliceApplied_back hs pl ps ?_)
  have hno : ¬ ((((((bk items.size lo : Nat) : Int) - 1) == 0) && (-1 : Int) == 1 && (bk items.size lo) == items.size) = true) := by
    intro q
    rw [Bool.and_eq_true, Bool.and_eq_true] at q
    have q1 := q.1.2
    exact absurd q1 (by decide)
  show wpAny _ _ (if ((((bk items.size lo : Nat) : Int) - 1) == 0 && (-1 : Int) == 1 && (bk items.size lo) == items.size) = true then _ else _) _ _ s
  rw [if_neg hno, pick_back items _ hk]
  first
    | exact wpAny_bind (m := Builtin.Tuple.tupleExact _) (wpAny_newObj_type (wpAny_pure ⟨_, rfl, wpAny_pure h⟩) htake)
    | exact wpAny_bind (m := Builtin.Tuple.tupleExact _) (wpAny_newObj_type (wpAny_bind (wpAny_pure (wpAny_pure ⟨_, rfl, wpAny_pure h⟩))) htake)
    | exact wpAny_bind (wpAny_bind (m := Builtin.Tuple.tupleExact _) (wpAny_newObj_type (wpAny_pure (wpAny_pure ⟨_, rfl, wpAny_pure h⟩)) htake))
    | exact wpAny_bind (wpAny_bind (m := Builtin.Tuple.tupleExact _) (wpAny_newObj_type (wpAny_pure ⟨_, rfl, wpAny_pure h⟩) htake))
end
end HT
namespace BW
open PySem PySem.Spec PyProof.Rows L2
def backV {α : Type} (xs : List α) (lo : Option Int) : List α := (xs.take (HT.bk xs.length lo)).reverse
def tBack (K : PySem.W.Frag) (te : TE) (tl : TO) : TE := fun σ H Q => te σ H fun x H1 => tl σ H1 fun lo H2 => ∃ a xs, x = .ref a ∧ SqT K H2 a xs ∧ ∀ p, H2 p = none → Q (.ref p) (upd H2 p (.tup (backV xs lo)))
section
variable {X : Cx}
theorem Vals.rev {xs : List V} {us : List Value} (r : Vals xs us) : Vals xs.reverse us.reverse := by
  induction r with
  | nil => exact .nil
  | cons r1 r2 ih =>
    rw [List.reverse_cons, List.reverse_cons]
    exact ih.append (.cons r1 .nil)
/-- t[lo::-1], t a tuple -/
theorem pe_back {e : Expr} {te : TE} {lo : Option Expr} {tl : TO} {k : Nat} {p1 p2 p3 pos : Pos} (he : PE X e te) (hl : PO X lo tl) : PE X (.Subscript e (.Slice lo none (some (.UnaryOp .USub (.Constant (.int 1) k p1) p2)) p3) pos) (tBack X.K te tl) := by
  refine ⟨fun pins s σ H Q I h => ?_⟩
  refine Subscript_ (thn (he.run pins s σ H _ I h) fun v s1 ⟨x, H1, I1, r1, q1⟩ => ?_)
  have hst : PO X (some (.UnaryOp .USub (.Constant (.int 1) k p1) p2)) (tPart (tUn (rU fun i => .int (-i)) (tC (.int 1)))) := po_some (pe_un un_neg pe_int)
  refine wpAny_Slice (thn (hl.run pins s1 σ H1 _ I1 q1) fun vl s2 ⟨l, H2, I2, pl, q2⟩ => ?_)
  refine thn (po_none.run pins s2 σ H2 (fun o H3 => o = none ∧ H3 = H2) I2 ⟨rfl, rfl⟩) fun vu s3 ⟨u, H3, I3, pu, eu, e3⟩ => ?_
  subst eu e3
  refine thn (hst.run pins s3 σ H3 (fun o H4 => o = some (-1) ∧ H4 = H3) I3 ⟨1, rfl, -1, rfl, rfl, rfl⟩) fun vs s4 ⟨o, H4, I4, ps, eo, e4⟩ => ?_
  subst eo e4
  cases pu
  have I5 : Inv X pins σ H4 { s4 with heap := s4.heap.push { cls := .type "slice", data := .fields #[vl, .none, vs] } } := I4.kept (t' := s4.toks) fun b ob q => Heap.get?_push_of_some _ q
  obtain ⟨a, xs, ex, hx, q⟩ := q2
  subst ex
  cases r1
  obtain ⟨its, r, ht, hz⟩ := I5.tuple hx
  have hlen := r.length
  show wpAny (model X.prog X.w) X.A (subscriptTail e (.Slice lo none (some (.UnaryOp .USub (.Constant (.int 1) k p1) p2)) p3) (.ref a) (.ref s4.heap.objs.size)) (EP X pins σ Q) X.xe { s4 with heap := s4.heap.push { cls := .type "slice", data := .fields #[vl, .none, vs] } }
  refine tail_any (ops := [.ref a, .ref s4.heap.objs.size]) ht.typeIs (PyProof.Rows.slot_tuple_getitem.lookup) ?_ (by with_unfolding_all rfl)
  refine HT.getItem_tuple_back ht (Heap.IsSliceOf.new _ vl .none vs) pl ps ?_ (by rw [List.size_toArray]; omega)
  refine ⟨.ref _, _, I5.laid (t' := s4.toks) (o := .tup (backV xs l)) (fun b ob q => Heap.get?_push_of_some _ q) (Nat.le_refl _) ?_, rfl, q _ (I5.hok.fresh (Nat.le_refl _))⟩
  refine ⟨?_, (its.take (HT.bk xs.length l)).reverse, Vals.rev (r.take _), ?_⟩
  · unfold backV
    rw [List.length_reverse, List.length_take]
    omega
  · have e5 : its.toArray.size = xs.length := by rw [List.size_toArray, ← hlen]
    rw [e5]
    exact IsTup.new _ _
/-- X(), X an own exception class without own __init__ -/
theorem pmk_own0 {C : Addr} {bmB : List Value} {B newId initId : String} {x : Str} {p pos : Pos} (F : ExcBaseFacts B newId initId bmB) (q : PySem.W.excIn X.K C bmB newId = true) (gC : X.mg x = some (.ref C))
    (kC : PySem.W.keepIn X.K (.ref C) = true) (r : Raises X (.ref C)) (hg : Gl X x) (hdb : (x == ("__debug__" : Str)) = false := by decide) :
    PMk X (.Call (.Name x p) [] [] pos) (fun _ H Q => Q (.ref C) none H) := by
  intro pins s σ H Q I h
  refine wpAny_Call_Name_kw (ld_glob I hg gC ?_ hdb)
  refine PySem.W.callWith_K0 I.kIn kC ?_
  show wpAny _ _ (call (.ref C) []) _ _ _
  obtain ⟨bm, N, nm, qn, bs, hdct, sn, sub, ab, col, dd, k0, k1, k2, k3, k5, mN, hC, hN, hni, T⟩ := exc_obj I.kIn q
  refine wpAny_call_exc_subT F T hC hN hni (fun h' e hm => ?_) (Nat.zero_le _)
  exact mk_of I hm r h (I.hok.gone hm.new)
end
section
variable {m : Option Addr} {l : List Sl} {n : Nat} {Φ : PyP}
/-! slices as data -/
def WO (m : Option Addr) (to : TO) (l : List Sl) (n : Nat) (Φ : Option Int → Nat → Prop) : Prop :=
  ∀ (B : Hp) (σ : Sg) (G H : Hp) (Q : Option Int → Hp → Prop), StD m B G H σ l → Wk m n G H → (∀ o n' G' H', Φ o n' → Tr m G H G' H' → Wk m n' G' H' → Q o H') → to σ H Q
theorem wo_none {Φ : Option Int → Nat → Prop} (h : Φ none n) : WO m tNoPart l n Φ := fun B σ G H Q hs hw q => q none n G H h .refl hw
theorem wo_some {te : TE} {Φ : Option Int → Nat → Prop} (h : WE m te l n fun d n' => ∃ i, d = .int i ∧ Φ (some i) n') : WO m (tPart te) l n Φ := fun B σ G H Q hs hw q =>
  h B σ G H _ hs hw fun v d n' G' H' ⟨i, e, h'⟩ t w x => by
    subst e
    exact ⟨i, dt_int.mp x, q _ n' G' H' h' t w⟩
theorem DtAll.take {G : Hp} : ∀ {ds : List PyData} {vs : List V} (k : Nat), DtAll G ds vs → DtAll G (ds.take k) (vs.take k)
  | _, _, 0, _ => dta_nil.mpr rfl
  | [], _, k + 1, h => by rw [dta_nil.mp h]; exact dta_nil.mpr rfl
  | d :: ds, _, k + 1, h => by
    obtain ⟨v, r, rfl, a, t⟩ := dta_cons.mp h
    exact dta_cons.mpr ⟨v, _, rfl, a, DtAll.take k t⟩
theorem DtAll.drop {G : Hp} : ∀ {ds : List PyData} {vs : List V} (k : Nat), DtAll G ds vs → DtAll G (ds.drop k) (vs.drop k)
  | _, _, 0, h => h
  | [], _, k + 1, h => by rw [dta_nil.mp h]; exact dta_nil.mpr rfl
  | d :: ds, _, k + 1, h => by
    obtain ⟨v, r, rfl, a, t⟩ := dta_cons.mp h
    exact DtAll.drop k t
theorem DtAll.rev {G : Hp} : ∀ {ds : List PyData} {vs : List V}, DtAll G ds vs → DtAll G ds.reverse vs.reverse
  | [], _, h => by rw [dta_nil.mp h]; exact dta_nil.mpr rfl
  | d :: ds, _, h => by
    obtain ⟨v, r, rfl, a, t⟩ := dta_cons.mp h
    rw [List.reverse_cons, List.reverse_cons]
    exact (DtAll.rev t).app (.one a)
theorem we_back {K : PySem.W.Frag} {te : TE} {tl : TO} (h : WE m te l n fun d n1 => WO m tl l n1 fun o n2 => ∃ ds, d = .tuple ds ∧ Φ (.tuple (backV ds o)) n2) : WE m (tBack K te tl) l n Φ := fun B σ G H Q hs hw q =>
  h B σ G H _ hs hw fun v d n1 G1 H1 h1 t1 w1 x1 => h1 B σ G1 H1 _ (hs.step t1) w1 fun o n2 G2 H2 ⟨ds, e, h2⟩ t2 w2 => by
    subst e
    obtain ⟨a, us, rfl, ga, ka⟩ := dt_tuple.mp x1
    refine ⟨a, us, rfl, .inl (.inl (w2.s _ _ (t2.g _ _ ga))), fun p hp => (q.step (t1.trans t2)).newD w2 hp h2 (dt_tuple.mpr ⟨p, _, rfl, upd_same, ?_⟩)⟩
    unfold backV
    rw [ka.length]
    exact ((DtAll.mono t2.g _ _ ka).newD (w2.s.free hp)).take _ |>.rev
/-- t[1:] of a tuple that is not empty -/
theorem we_tail {K : PySem.W.Frag} {te : TE} {to1 to2 : TO} (h : WE m te l n fun d n1 => WO m to1 l n1 fun o1 n2 => WO m to2 l n2 fun o2 n3 => ∃ ds, d = .tuple ds ∧ o1 = some 1 ∧ o2 = none ∧ ds ≠ [] ∧ Φ (.tuple (ds.drop 1)) n3) : WE m (tSl (rSlT K) te to1 to2) l n Φ := fun B σ G H Q hs hw q =>
  h B σ G H _ hs hw fun v d n1 G1 H1 h1 t1 w1 x1 => h1 B σ G1 H1 _ (hs.step t1) w1 fun o1 n2 G2 H2 h2 t2 w2 => h2 B σ G2 H2 _ (hs.step (t1.trans t2)) w2 fun o2 n3 G3 H3 ⟨ds, e, e1, e2, hne, h3⟩ t3 w3 => by
    subst e e1 e2
    obtain ⟨a, us, rfl, ga, ka⟩ := dt_tuple.mp x1
    have hl := ka.length
    have hp : 0 < us.length := by rw [hl]; exact List.length_pos_iff.mpr hne
    have s1 : HT.sIx us.length 0 (some 1) = 1 := by
      rw [show (1 : Int) = ((1 : Nat) : Int) from rfl, HT.sIx_nat]
      omega
    refine ⟨a, us, rfl, .inl (.inl (w3.s _ _ (t3.g _ _ (t2.g _ _ ga)))), fun z => by rw [s1] at z; exact absurd z.1 (by decide), fun p hp => ?_⟩
    have ec : cutV us (some 1) none = us.drop 1 := by
      unfold cutV
      rw [s1, HT.sIx_none]
      exact List.take_of_length_le (by rw [List.length_drop]; exact Nat.le_refl _)
    rw [ec]
    exact (q.step ((t1.trans t2).trans t3)).newD w3 hp h3 (dt_tuple.mpr ⟨p, _, rfl, upd_same, ((DtAll.mono (t2.g.trans t3.g) _ _ ka).newD (w3.s.free hp)).drop 1⟩)
end
end BW

set_option Elab.async false
set_option linter.all false
set_option maxRecDepth 100000
set_option maxHeartbeats 4000000
/-! The small logic, fourth part: a list, a dict of the def's own that changes. -/
namespace BW
open PySem PySem.Spec PyProof.Rows L2
def onlyML (l : List Sl) (i : Nat) : Bool := (List.range l.length).all fun j => j == i || (match l[j]? with | some (.ml _) => false | _ => true)
def onlyMD (l : List Sl) (i : Nat) : Bool := (List.range l.length).all fun j => j == i || (match l[j]? with | some (.md _) => false | _ => true)
theorem onlyML_out {l : List Sl} {i j : Nat} {acc : List PyData} (h : onlyML l i = true) (hj : l[j]? = some (.ml acc)) : j = i := by
  have hl : j < l.length := (List.getElem?_eq_some_iff.mp hj).1
  have := List.all_eq_true.mp h j (List.mem_range.mpr hl)
  rw [hj] at this
  simpa using this
theorem onlyMD_out {l : List Sl} {i j : Nat} {acc : List (Int × Int)} (h : onlyMD l i = true) (hj : l[j]? = some (.md acc)) : j = i := by
  have hl : j < l.length := (List.getElem?_eq_some_iff.mp hj).1
  have := List.all_eq_true.mp h j (List.mem_range.mpr hl)
  rw [hj] at this
  simpa using this
theorem DtAll.set {G : Hp} : ∀ {ds : List PyData} {vs : List V} {j : Nat} {d : PyData} {v : V}, DtAll G ds vs → Dt G d v → DtAll G (ds.set j d) (vs.set j v)
  | [], _, _, _, _, h, _ => by rw [dta_nil.mp h]; exact dta_nil.mpr rfl
  | _ :: _, _, 0, d, v, h, k => by
    obtain ⟨u, r, rfl, _, t⟩ := dta_cons.mp h
    exact dta_cons.mpr ⟨v, r, rfl, k, t⟩
  | _ :: _, _, j + 1, d, v, h, k => by
    obtain ⟨u, r, rfl, a, t⟩ := dta_cons.mp h
    exact dta_cons.mpr ⟨u, _, rfl, a, DtAll.set t k⟩
theorem sq_upd {K : PySem.W.Frag} {B H : Hp} {a A : Addr} {o : HO} {xs : List V} (hB : SqL K B a xs) (hS : SqL K H a xs) (bA : B A = none) : SqL K (upd H A o) a xs := by
  have key : (∃ u, B a = some u) → SqL K (upd H A o) a xs := fun ⟨u, hu⟩ => by
    have ne : a ≠ A := ne_of_none hu bA
    rcases hS with (q | ⟨ob, q⟩) | q
    · exact .inl (.inl (by rw [upd_ne ne]; exact q))
    · exact .inl (.inr ⟨ob, by rw [upd_ne ne]; exact q⟩)
    · exact .inr q
  rcases hB with (q | ⟨ob, q⟩) | q
  · exact key ⟨_, q⟩
  · exact key ⟨_, q⟩
  · exact .inr q
section
variable {m : Option Addr} {n : Nat} {B G H G0 : Hp} {σ : Sg} {l : List Sl} {i : Nat} {A : Addr}
theorem StD.updL {us us' : List V} {acc acc' : List PyData} (k : StD m B G H σ l) (hi : l[i]? = some (.ml acc)) (ho : onlyML l i = true) (eo : σ[i]? = some (some (.ref A))) (hA : H A = some (.lst us)) (gA : G A = none) (bA : B A = none) (hm : m ≠ some A) (ka : DtAll G acc' us') :
    StD m B G (upd H A (.lst us')) σ (l.set i (.ml acc')) := by
  refine ⟨by rw [List.length_set]; exact k.1, fun j s o a b => ?_⟩
  by_cases e : i = j
  · subst e
    have hl : i < l.length := (List.getElem?_eq_some_iff.mp hi).1
    rw [List.getElem?_set_self hl] at a
    rw [eo] at b
    cases a
    cases b
    exact ⟨A, us', rfl, upd_same, gA, bA, hm, ka⟩
  · rw [List.getElem?_set_ne e] at a
    have q := k.2 j s o a b
    cases s with
    | un => exact q
    | d x => exact q
    | tin => exact q
    | ml a2 => exact absurd (onlyML_out ho a).symm e
    | md kvs =>
      obtain ⟨D, e1, hD, gD, bD, hm2⟩ := q
      exact ⟨D, e1, by rw [upd_ne (ne_of hD hA (by intro z; cases z))]; exact hD, gD, bD, hm2⟩
    | sq K ns =>
      obtain ⟨p, e1, hp, hB, hS⟩ := q
      exact ⟨p, e1, hp, hB, sq_upd hB hS bA⟩
theorem StD.updD {kvs kvs' : List (Int × Int)} (k : StD m B G H σ l) (hi : l[i]? = some (.md kvs)) (ho : onlyMD l i = true) (eo : σ[i]? = some (some (.ref A))) (hA : H A = some (.dK (kvD kvs))) (gA : G A = none) (bA : B A = none) (hm : m ≠ some A) :
    StD m B G (upd H A (.dK (kvD kvs'))) σ (l.set i (.md kvs')) := by
  refine ⟨by rw [List.length_set]; exact k.1, fun j s o a b => ?_⟩
  by_cases e : i = j
  · subst e
    have hl : i < l.length := (List.getElem?_eq_some_iff.mp hi).1
    rw [List.getElem?_set_self hl] at a
    rw [eo] at b
    cases a
    cases b
    exact ⟨A, rfl, upd_same, gA, bA, hm⟩
  · rw [List.getElem?_set_ne e] at a
    have q := k.2 j s o a b
    cases s with
    | un => exact q
    | d x => exact q
    | tin => exact q
    | md a2 => exact absurd (onlyMD_out ho a).symm e
    | ml acc =>
      obtain ⟨D, us, e1, hD, gD, bD, hm2, ka⟩ := q
      exact ⟨D, us, e1, by rw [upd_ne (ne_of hD hA (by intro z; cases z))]; exact hD, gD, bD, hm2, ka⟩
    | sq K ns =>
      obtain ⟨p, e1, hp, hB, hS⟩ := q
      exact ⟨p, e1, hp, hB, sq_upd hB hS bA⟩
theorem Tr.bfree (T : Tr m G0 B G H) {p : Addr} (hp : H p = none) : B p = none := by
  cases e : B p with
  | none => rfl
  | some o => exact absurd hp (T.n p (by rw [e]; intro z; cases z))
theorem StD.newL {p : Addr} {us : List V} {acc : List PyData} (k : StD m B G H σ l) (T : Tr m G0 B G H) (w : Wk m n G H) (hp : H p = none) (ka : DtAll G acc us) : StD m B G (upd H p (.lst us)) (σ.set i (some (.ref p))) (l.set i (.ml acc)) :=
  (k.step (tr_tmp hp).any).set ⟨p, us, rfl, upd_same, w.s.free hp, T.bfree hp, w.ne hp, ka⟩
theorem StD.newD {p : Addr} {kvs : List (Int × Int)} (k : StD m B G H σ l) (T : Tr m G0 B G H) (w : Wk m n G H) (hp : H p = none) : StD m B G (upd H p (.dK (kvD kvs))) (σ.set i (some (.ref p))) (l.set i (.md kvs)) :=
  (k.step (tr_tmp hp).any).set ⟨p, rfl, upd_same, w.s.free hp, T.bfree hp, w.ne hp⟩
end
section
variable {m : Option Addr} {l : List Sl} {n : Nat} {Φ : PyP} {Ψ : List Sl → Nat → Prop} {R : PyP} {i : Nat} {acc : List PyData} {K : PySem.W.Frag}
/-! made -/
theorem ws_newL {ta : TA} (h : WA m ta l n fun ds n' => ds.length ≤ 1000 ∧ Ψ (l.set i (.ml ds)) n') : WS m (tAsg (tLst ta) (gName i)) l n Ψ R := fun G0 B σ G H D h0 hs hw hn _ =>
  h B σ G H _ hs hw fun vs ds n1 G1 H1 ⟨hl, h1⟩ t1 w1 x1 => ⟨by rw [x1.length]; exact line1000 hl, fun p hp =>
    hn _ _ n1 G1 _ h1 t1.g ((h0.trans t1).put ((h0.trans t1).bfree hp)) (w1.put (w1.s.free hp) (w1.ne hp)) ((hs.step t1).newL (h0.trans t1) w1 hp x1)⟩
theorem ws_newLof {te : TE} (h : WE m te l n fun d n' => ∃ es, (d = .list es ∨ d = .tuple es) ∧ Ψ (l.set i (.ml es)) n') :
    WS m (tAsg (tCB (fun xs H Q => ∃ p ys, xs = [.ref p] ∧ (SqL K H p ys ∨ SqT K H p ys) ∧ ∀ l, H l = none → Q (.ref l) (upd H l (.lst ys))) (tCons te tNil)) (gName i)) l n Ψ R := fun G0 B σ G H D h0 hs hw hn _ =>
  h B σ G H _ hs hw fun v d n1 G1 H1 ⟨es, e, h1⟩ t1 w1 x1 => by
    obtain ⟨a, ys, rfl, s, ka, _⟩ := seq_of (K := K) w1.s x1 e
    exact ⟨a, ys, rfl, s, fun p hp => hn _ _ n1 G1 _ h1 t1.g ((h0.trans t1).put ((h0.trans t1).bfree hp)) (w1.put (w1.s.free hp) (w1.ne hp)) ((hs.step t1).newL (h0.trans t1) w1 hp ka)⟩
theorem ws_newDL {j : Nat} {ta : TA} (h : WA m ta l n fun ds n' => ds.length ≤ 1000 ∧ Ψ ((l.set i (.md [])).set j (.ml ds)) n') : WS m (tPar i j (tCons tDNewK (tCons (tLst ta) tNil))) l n Ψ R := fun G0 B σ G H D h0 hs hw hn _ => by
  intro p hp
  have t0 : Tr m G H G (upd H p (.dK [])) := (tr_tmp hp).any
  have w0 : Wk m n G (upd H p (.dK [])) := hw.put (hw.s.free hp) (hw.ne hp)
  refine h B σ G _ _ (hs.step t0) w0 fun vs ds n1 G1 H1 ⟨hl, h1⟩ t1 w1 x1 => ⟨by rw [x1.length]; exact line1000 hl, fun q hq => ⟨.ref p, .ref q, rfl, ?_⟩⟩
  have hm : m ≠ some p := hw.ne hp
  have hp1 : H1 p = some (.dK (kvD [])) := t1.k p _ hm upd_same
  have np : upd H p (.dK []) p ≠ none := by rw [upd_same]; intro z; cases z
  have g1 : G1 p = none := (t1.f p np).trans (hw.s.free hp)
  have T1 : Tr m G0 B G1 H1 := ⟨h0.g.trans t1.g, fun b o e k => t1.k b o e (t0.k b o e (h0.k b o e k)), fun b k => ((t0.trans t1).f b (h0.n b k)).trans (h0.f b k), fun b k => (t0.trans t1).n b (h0.n b k)⟩
  have s1 : StD m B G1 H1 (σ.set i (some (.ref p))) (l.set i (.md [])) := (hs.step (t0.trans t1)).set ⟨p, rfl, hp1, g1, h0.bfree hp, hm⟩
  exact hn _ _ n1 G1 _ h1 t1.g (T1.put (T1.bfree hq)) (w1.put (w1.s.free hq) (w1.ne hq)) (s1.newL T1 w1 hq x1)

/-! read -/
theorem we_ixM {tb : TE} (hi : l[i]? = some (.ml acc)) (h : WE m tb l n fun y n' => ∃ k d, y = .int k ∧ L2.atI acc k = some d ∧ Φ d n') : WE m (tOp (rIxL K) (tVar i) tb) l n Φ := fun B σ G H Q hs hw q => by
  obtain ⟨o, eo, A, us, rfl, hA, gA, bA, hm, ka⟩ := hs.at hi
  refine ⟨.ref A, eo, ?_⟩
  refine h B σ G H _ hs hw fun v d n1 G1 H1 ⟨k, e, ey, he, h1⟩ t1 w1 x1 => ?_
  subst ey
  obtain ⟨v', ev, dv⟩ := ka.atI he
  exact ⟨A, us, k, v', rfl, dt_int.mp x1, .inl (.inl (t1.k A _ hm hA)), ev, (q.step t1).here w1 h1 (Dt.mono t1.g _ _ dv)⟩
theorem we_lenM (hi : l[i]? = some (.ml acc)) (h : Φ (.int (acc.length : Nat)) n) : WE m (tCB (fun xs H Q => ∃ p ys, xs = [.ref p] ∧ (SqL K H p ys ∨ SqT K H p ys) ∧ Q (.int (ys.length : Nat)) H) (tCons (tVar i) tNil)) l n Φ := fun B σ G H Q hs hw q => by
  obtain ⟨o, eo, A, us, rfl, hA, gA, bA, hm, ka⟩ := hs.at hi
  refine ⟨.ref A, eo, A, us, rfl, .inl (.inl (.inl hA)), ?_⟩
  rw [ka.length]
  exact q.here hw h (dt_int.mpr rfl)
theorem we_tupM (hi : l[i]? = some (.ml acc)) (h : Φ (.tuple acc) n) : WE m (tCB (fun xs H Q => ∃ p ys, xs = [.ref p] ∧ ((SqL K H p ys ∧ ∀ l, H l = none → Q (.ref l) (upd H l (.tup ys))) ∨ (SqT K H p ys ∧ Q (.ref p) H))) (tCons (tVar i) tNil)) l n Φ := fun B σ G H Q hs hw q => by
  obtain ⟨o, eo, A, us, rfl, hA, gA, bA, hm, ka⟩ := hs.at hi
  exact ⟨.ref A, eo, A, us, rfl, .inl ⟨.inl (.inl hA), fun p hp => q.newD hw hp h (dt_tuple.mpr ⟨p, us, rfl, upd_same, ka.newD (hw.s.free hp)⟩)⟩⟩
theorem wi_listM {P : List PyData → Nat → Prop} (hi : l[i]? = some (.ml acc)) (h : P acc n) : WIT m (iList K (tVar i)) l n P := fun B σ G H R hs hw q => by
  obtain ⟨o, eo, A, us, rfl, hA, gA, bA, hm, ka⟩ := hs.at hi
  refine ⟨.ref A, eo, A, rfl, ⟨us, .inl (.inl hA)⟩, q _ acc n G H h .refl hw ?_⟩
  intro j G2 H2 n2 t2 w2
  have hS : SqL K H2 A us := .inl (.inl (t2.k A _ hm hA))
  refine ⟨fun hj => ?_, fun hj => ⟨us, hS, by rw [ka.length]; exact hj⟩⟩
  obtain ⟨y, ey, dy⟩ := ka.get (List.getElem?_eq_getElem hj)
  refine ⟨⟨us, y, hS, ey⟩, fun z H3 hz => ?_⟩
  obtain ⟨e1, e2⟩ := hz
  subst e1
  have e3 : y = z := Option.some.inj (ey.symm.trans (e2 us hS))
  subst e3
  exact ⟨acc[j], G2, List.getElem?_eq_getElem hj, .refl, w2, Dt.mono t2.g _ _ dy⟩

/-! written -/
theorem ws_appM {te : TE} (hi : l[i]? = some (.ml acc)) (ho : onlyML l i = true) (h : WE m te l n fun d n' => acc.length < 1000 ∧ Ψ (l.set i (.ml (acc ++ [d]))) n') : WS m (tDrop (tBM K "list" rAppend (tVar i) (tCons te tNil))) l n Ψ R := fun G0 B σ G H D h0 hs hw hn _ => by
  obtain ⟨o, eo, A, us, rfl, hA, gA, bA, hm, ka⟩ := hs.at hi
  refine ⟨.ref A, eo, Or.inl ⟨rfl, _, .inl (.inl hA)⟩, ?_⟩
  refine h B σ G H _ hs hw fun v d n1 G1 H1 ⟨hl, h1⟩ t1 w1 x1 => ?_
  have nz : H A ≠ none := by rw [hA]; intro z; cases z
  have hA1 := t1.k A _ hm hA
  have gA1 : G1 A = none := (t1.f A nz).trans gA
  refine ⟨A, us, v, rfl, rfl, hA1, by rw [ka.length]; exact small1000 (by omega), ?_⟩
  exact hn σ _ n1 G1 _ h1 t1.g ((h0.trans t1).put bA) (w1.put gA1 hm) ((hs.step t1).updL hi ho eo hA1 gA1 bA hm ((DtAll.mono t1.g _ _ ka).app (.one x1)))
theorem ws_setM {te ti : TE} (hi : l[i]? = some (.ml acc)) (ho : onlyML l i = true) (h : WE m te l n fun d n1 => WE m ti l n1 fun y n2 => ∃ k j, y = .int k ∧ ixN acc.length k = some j ∧ Ψ (l.set i (.ml (acc.set j d))) n2) : WS m (tAsg te (gSub (tVar i) ti rSetL)) l n Ψ R := fun G0 B σ G H D h0 hs hw hn _ => by
  refine h B σ G H _ hs hw fun v d n1 G1 H1 h1 t1 w1 x1 => ?_
  have hs1 := hs.step t1
  obtain ⟨o, eo, A, us, rfl, hA, gA, bA, hm, ka⟩ := hs1.at hi
  refine ⟨.ref A, eo, ?_⟩
  refine h1 B σ G1 H1 _ hs1 w1 fun kv dk n2 G2 H2 ⟨k, j, e, hj, h2⟩ t2 w2 x2 => ?_
  subst e
  have nz : H1 A ≠ none := by rw [hA]; intro z; cases z
  have hA2 := t2.k A _ hm hA
  have gA2 : G2 A = none := (t2.f A nz).trans gA
  refine ⟨A, us, k, j, rfl, dt_int.mp x2, hA2, by rw [ka.length]; exact hj, ?_⟩
  exact hn σ _ n2 G2 _ h2 (t1.g.trans t2.g) ((h0.trans (t1.trans t2)).put bA) (w2.put gA2 hm) ((hs1.step t2).updL hi ho eo hA2 gA2 bA hm (DtAll.set (DtAll.mono t2.g _ _ ka) (Dt.mono t2.g _ _ x1)))

/-! the dict -/
def lookI (kvs : List (Int × Int)) (k : Int) : Option Int := (kvs.find? fun p => decide (p.1 = k)).map (·.2)
theorem valV_kvD : ∀ (kvs : List (Int × Int)) (k : Int), valV (kvD kvs) (Sum.inl k : Key) = (lookI kvs k).map V.int
  | [], _ => rfl
  | p :: r, k => by
    by_cases e : p.1 = k
    · have h1 : valV (kvD (p :: r)) (Sum.inl k : Key) = some (V.int p.2) := valV_pos (p := ((Sum.inl p.1 : Key), V.int p.2)) (by rw [e])
      rw [h1]
      unfold lookI
      rw [List.find?_cons, decide_eq_true e]
      rfl
    · have h1 : valV (kvD (p :: r)) (Sum.inl k : Key) = valV (kvD r) (Sum.inl k : Key) := valV_neg (p := ((Sum.inl p.1 : Key), V.int p.2)) (fun z => e (Sum.inl.inj z))
      rw [h1, valV_kvD r k]
      unfold lookI
      rw [List.find?_cons, decide_eq_false e]
theorem putK_kvD {kvs : List (Int × Int)} {k v : Int} (h : lookI kvs k = none) : putK (kvD kvs) (Sum.inl k : Key) (V.int v) = kvD (kvs ++ [(k, v)]) := by
  unfold putK
  rw [if_neg]
  · unfold kvD
    rw [List.map_append]
    rfl
  · intro q
    obtain ⟨x, hx, ex⟩ := List.any_eq_true.mp q
    obtain ⟨p, hp, rfl⟩ := List.mem_map.mp hx
    have e : p.1 = k := Sum.inl.inj (of_decide_eq_true ex)
    unfold lookI at h
    cases f : kvs.find? fun p => decide (p.1 = k) with
    | none => exact absurd (decide_eq_true e) (List.find?_eq_none.mp f p hp)
    | some y =>
      rw [f] at h
      cases h
variable {kvs : List (Int × Int)}
theorem we_dnotin {ty : TE} {i : Nat} (hi : l[i]? = some (.md kvs)) (h : WE m ty l n fun y n' => ∃ k, y = .int k ∧ Φ (.bool (!(lookI kvs k).isSome)) n') : WE m (tDNotIn ty (tVar i)) l n Φ := fun B σ G H Q hs hw q =>
  h B σ G H _ hs hw fun v d n1 G1 H1 ⟨k, e, h1⟩ t1 w1 x1 => by
    subst e
    obtain ⟨o, eo, A, rfl, hA, gA, bA, hm⟩ := (hs.step t1).at hi
    rw [dt_int.mp x1]
    refine ⟨.ref A, eo, A, valV (kvD kvs) (Sum.inl k : Key), rfl, DGet.k (k := Sum.inl k) hA, ?_⟩
    rw [valV_kvD, Option.isSome_map]
    exact (q.step t1).here w1 h1 (dt_bool.mpr rfl)
theorem we_dget {ty : TE} {i : Nat} (hi : l[i]? = some (.md kvs)) (h : WE m ty l n fun y n' => ∃ k v, y = .int k ∧ lookI kvs k = some v ∧ Φ (.int v) n') : WE m (tDGet (tVar i) ty) l n Φ := fun B σ G H Q hs hw q => by
  obtain ⟨o, eo, A, rfl, hA, gA, bA, hm⟩ := hs.at hi
  refine ⟨.ref A, eo, ?_⟩
  refine h B σ G H _ hs hw fun v d n1 G1 H1 ⟨k, u, e, hu, h1⟩ t1 w1 x1 => ?_
  subst e
  rw [dt_int.mp x1]
  refine ⟨A, .int u, rfl, ?_, (q.step t1).here w1 h1 (dt_int.mpr rfl)⟩
  have g := DGet.k (k := (Sum.inl k : Key)) (t1.k A _ hm hA)
  rw [valV_kvD, hu] at g
  exact g
theorem ws_dput {tv ty : TE} {i : Nat} (hi : l[i]? = some (.md kvs)) (ho : onlyMD l i = true) (h : WE m tv l n fun d n1 => WE m ty l n1 fun y n2 => ∃ k v, d = .int v ∧ y = .int k ∧ lookI kvs k = none ∧ kvs.length < 1000 ∧ Ψ (l.set i (.md (kvs ++ [(k, v)]))) n2) : WS m (sDPut (tVar i) ty tv) l n Ψ R := fun G0 B σ G H D h0 hs hw hn _ => by
  refine h B σ G H _ hs hw fun v d n1 G1 H1 h1 t1 w1 x1 => ?_
  have hs1 := hs.step t1
  obtain ⟨o, eo, A, rfl, hA, gA, bA, hm⟩ := hs1.at hi
  refine ⟨.ref A, eo, ?_⟩
  refine h1 B σ G1 H1 _ hs1 w1 fun kv dk n2 G2 H2 ⟨k, z, e1, e2, hk, hl, h2⟩ t2 w2 x2 => ?_
  subst e1 e2
  have nz : H1 A ≠ none := by rw [hA]; intro z; cases z
  have hA2 := t2.k A _ hm hA
  have gA2 : G2 A = none := (t2.f A nz).trans gA
  rw [dt_int.mp x1, dt_int.mp x2]
  refine ⟨A, _, rfl, DPut.k (k := (Sum.inl k : Key)) hA2 (by unfold kvD; rw [List.length_map]; exact small1000 (by omega)), ?_⟩
  rw [putK_kvD hk]
  exact hn σ _ n2 G2 _ h2 (t1.g.trans t2.g) ((h0.trans (t1.trans t2)).put bA) (w2.put gA2 hm) ((hs1.step t2).updD hi ho eo hA2 gA2 bA hm)
end
section
variable {m : Option Addr} {l : List Sl} {n : Nat} {Φ : PyP} {Ψ : List Sl → Nat → Prop} {R : PyP} {i : Nat} {acc : List PyData} {K : PySem.W.Frag} {ns : List Int}
/-! the script: read, cut -/
def cutI (xs : List Int) (lo hi : Option Int) : List Int := (xs.drop (HT.sIx xs.length 0 lo)).take (HT.sIx xs.length xs.length hi - HT.sIx xs.length 0 lo)
theorem cutV_ints (xs : List Int) (lo hi : Option Int) : cutV (xs.map V.int) lo hi = (cutI xs lo hi).map V.int := by
  unfold cutV cutI
  rw [List.length_map, List.map_take, List.map_drop]
theorem we_cutSq {t1 t2 : TO} (hi : l[i]? = some (.sq K ns)) (h : WO m t1 l n fun o1 n1 => WO m t2 l n1 fun o2 n2 => Φ (.list ((cutI ns o1 o2).map PyData.int)) n2) : WE m (tSl (rSlL K) (tVar i) t1 t2) l n Φ := fun B σ G H Q hs hw q => by
  obtain ⟨o, eo, a, rfl, hm, hB, hS⟩ := hs.at hi
  refine ⟨.ref a, eo, ?_⟩
  refine h B σ G H _ hs hw fun o1 n1 G1 H1 h1 t1 w1 => h1 B σ G1 H1 _ (hs.step t1) w1 fun o2 n2 G2 H2 h2 t2 w2 => ?_
  have hS2 : SqL K H2 a (ns.map V.int) := by
    have T := t1.trans t2
    rcases hS with (q | ⟨ob, q⟩) | q
    · exact .inl (.inl (T.k a _ hm q))
    · exact .inl (.inr ⟨ob, T.k a _ hm q⟩)
    · exact .inr q
  refine ⟨a, _, rfl, hS2, fun p hp => ?_⟩
  rw [cutV_ints]
  exact (q.step (t1.trans t2)).newD w2 hp h2 (dt_list.mpr ⟨p, _, rfl, upd_same, DtAll.ints.mpr rfl⟩)
/-- x = list(e) or [d, ..] -/
theorem ws_newLor {te : TE} {tb : TA} (h : WE m te l n fun d n' => ∃ es, (d = .list es ∨ d = .tuple es) ∧ (es ≠ [] → Ψ (l.set i (.ml es)) n') ∧ (es = [] → WA m tb l n' fun ds n2 => ds.length ≤ 1000 ∧ Ψ (l.set i (.ml ds)) n2)) :
    WS m (tAsg (tOrT K (tCB (fun xs H Q => ∃ p ys, xs = [.ref p] ∧ (SqL K H p ys ∨ SqT K H p ys) ∧ ∀ l, H l = none → Q (.ref l) (upd H l (.lst ys))) (tCons te tNil)) (tLst tb)) (gName i)) l n Ψ R := fun G0 B σ G H D h0 hs hw hn _ =>
  h B σ G H _ hs hw fun v d n1 G1 H1 ⟨es, e, ha, hb⟩ t1 w1 x1 => by
    obtain ⟨a, ys, rfl, s, ka, _⟩ := seq_of (K := K) w1.s x1 e
    refine ⟨a, ys, rfl, s, fun p hp => ⟨!ys.isEmpty, .inl ⟨ys, .inl (.inl upd_same), rfl⟩, ?_⟩⟩
    have hl := ka.length
    cases ys with
    | nil =>
      have e0 : es = [] := by cases es with | nil => rfl | cons _ _ => simp at hl
      refine iteF ?_
      have t2 : Tr m G1 H1 G1 (upd H1 p (.lst [])) := (tr_tmp hp).any
      have w2 : Wk m n1 G1 (upd H1 p (.lst [])) := w1.put (w1.s.free hp) (w1.ne hp)
      refine hb e0 B σ G1 _ _ ((hs.step t1).step t2) w2 fun vs ds n3 G3 H3 ⟨h3l, h3⟩ t3 w3 x3 => ⟨by rw [x3.length]; exact line1000 h3l, fun q hq => ?_⟩
      have T3 := h0.trans (t1.trans (t2.trans t3))
      exact hn _ _ n3 G3 _ h3 (t1.g.trans (t2.g.trans t3.g)) (T3.put (T3.bfree hq)) (w3.put (w3.s.free hq) (w3.ne hq)) ((hs.step (t1.trans (t2.trans t3))).newL T3 w3 hq x3)
    | cons y r =>
      have e0 : es ≠ [] := by intro z; rw [z] at hl; simp at hl
      refine iteT ?_
      exact hn _ _ n1 G1 _ (ha e0) t1.g ((h0.trans t1).put ((h0.trans t1).bfree hp)) (w1.put (w1.s.free hp) (w1.ne hp)) ((hs.step t1).newL (h0.trans t1) w1 hp ka)
def enumD : Nat → List PyData → List PyData
  | _, [] => []
  | k, d :: ds => .tuple [.int (k : Nat), d] :: enumD (k + 1) ds
theorem enumD_length : ∀ (k : Nat) (ds : List PyData), (enumD k ds).length = ds.length
  | _, [] => rfl
  | k, d :: ds => by
    show (enumD (k + 1) ds).length + 1 = ds.length + 1
    rw [enumD_length (k + 1) ds]
theorem enumD_get : ∀ (k : Nat) (ds : List PyData) (j : Nat) (d : PyData), ds[j]? = some d → (enumD k ds)[j]? = some (.tuple [.int ((k + j : Nat) : Int), d])
  | _, [], _, _, h => by simp at h
  | k, e :: ds, 0, d, h => by
    have : e = d := by simpa using h
    rw [this]
    rfl
  | k, e :: ds, j + 1, d, h => by
    have := enumD_get (k + 1) ds j d (by simpa using h)
    rw [show k + 1 + j = k + (j + 1) by omega] at this
    exact this
theorem wi_enum {ta : TA} {P : List PyData → Nat → Prop} (h : WA m ta l n fun ds n' => ∃ es, ds = [.list es] ∧ P (enumD 0 es) n') : WI m (iEnum K ta) l n P := fun B σ G H R hs hw q =>
  h B σ G H _ hs hw fun vs ds n' G' H' ⟨es, e, h'⟩ t w x => by
    subst e
    obtain ⟨v, rfl, k1⟩ := x.v1
    obtain ⟨a, us, rfl, ga, ka⟩ := dt_list.mp k1
    refine ⟨a, us, rfl, .inl (.inl (w.s _ _ ga)), q _ _ n' G' H' h' t w ?_⟩
    intro j G2 H2 n2 s2 w2
    have hS : SqL K H2 a us := .inl (.inl (w2.s _ _ (s2 _ _ ga)))
    refine ⟨fun hj => ?_, fun hj => ⟨us, hS, by rw [ka.length]; rw [enumD_length] at hj; exact hj⟩⟩
    rw [enumD_length] at hj
    obtain ⟨y, ey, dy⟩ := ka.get (List.getElem?_eq_getElem hj)
    refine ⟨⟨us, y, hS, ey⟩, fun p H3 hp => ?_⟩
    obtain ⟨T, x1, rfl, hT, rfl, f1⟩ := hp
    have e1 : y = x1 := Option.some.inj (ey.symm.trans (f1 us hS))
    subst e1
    refine ⟨_, _, enumD_get 0 es j _ (List.getElem?_eq_getElem hj), (tr_new w2.s hT).any, w2.any (tr_new w2.s hT) (sm_new w2.s), ?_⟩
    have sn := same_new (o := HO.tup [V.int ((j : Nat) : Int), y]) (w2.s.free hT)
    rw [Nat.zero_add]
    exact dt_tuple.mpr ⟨T, _, rfl, upd_same, .two (dt_int.mpr rfl) (Dt.mono (s2.trans sn) _ _ dy)⟩
/-- the list itself is handed back -/
theorem ws_retM (hi : l[i]? = some (.ml acc)) (h : R (.list acc) n) : WS m (tRet (tVar i)) l n Ψ R := fun G0 B σ G H D h0 hs hw _ hr => by
  obtain ⟨o, eo, A, us, rfl, hA, gA, bA, hm, ka⟩ := hs.at hi
  have g0 : G0 A = none := h0.g.free gA
  exact ⟨.ref A, eo, hr _ _ n (upd G A (.lst us)) H h (h0.seal bA g0) (hw.seal hA hm) (dt_list.mpr ⟨A, us, rfl, upd_same, ka.newD gA⟩)⟩
end
end BW

set_option Elab.async false
set_option linter.all false
set_option maxRecDepth 100000
set_option maxHeartbeats 4000000
/-! The text by places: each def's names, what the top leaves. -/
namespace BW
open PySem PySem.Spec PyProof.Rows L2
def topS (i : Nat) : Stmt := PySem.Challenge.pw_bothwheels_k05_whole_led_and_put_togethe.main.body.getD i (.Pass ⟨0, 0, 0, 0⟩)
abbrev s_is_number : Stmt := topS 4
abbrev n_is_number : List Str := ["thing"]
theorem sc_is_number : FnScope n_is_number ["thing"] (defScope s_is_number) := ⟨rfl, rfl, rfl, by decide +kernel, rfl, by decide +kernel, by decide +kernel⟩
abbrev s_tupled : Stmt := topS 5
abbrev n_tupled : List Str := ["value", "own"]
theorem sc_tupled : FnScope n_tupled ["value"] (defScope s_tupled) := ⟨rfl, rfl, rfl, by decide +kernel, rfl, by decide +kernel, by decide +kernel⟩
abbrev s_is_wheel : Stmt := topS 7
abbrev n_is_wheel : List Str := ["thing", "near", "far", "own"]
theorem sc_is_wheel : FnScope n_is_wheel ["thing"] (defScope s_is_wheel) := ⟨rfl, rfl, rfl, by decide +kernel, rfl, by decide +kernel, by decide +kernel⟩
abbrev s_sure_wheel : Stmt := topS 8
abbrev n_sure_wheel : List Str := ["wheel", "own"]
theorem sc_sure_wheel : FnScope n_sure_wheel ["wheel"] (defScope s_sure_wheel) := ⟨rfl, rfl, rfl, by decide +kernel, rfl, by decide +kernel, by decide +kernel⟩
abbrev s_is_train : Stmt := topS 9
abbrev n_is_train : List Str := ["thing", "own"]
theorem sc_is_train : FnScope n_is_train ["thing"] (defScope s_is_train) := ⟨rfl, rfl, rfl, by decide +kernel, rfl, by decide +kernel, by decide +kernel⟩
abbrev s_sure_train : Stmt := topS 10
abbrev n_sure_train : List Str := ["train", "own"]
theorem sc_sure_train : FnScope n_sure_train ["train"] (defScope s_sure_train) := ⟨rfl, rfl, rfl, by decide +kernel, rfl, by decide +kernel, by decide +kernel⟩
abbrev s_led_in : Stmt := topS 11
abbrev n_led_in : List Str := ["wheel", "number", "rounds", "place"]
theorem sc_led_in : FnScope n_led_in ["wheel", "number"] (defScope s_led_in) := ⟨rfl, rfl, rfl, by decide +kernel, rfl, by decide +kernel, by decide +kernel⟩
abbrev s_leads : Stmt := topS 12
abbrev n_leads : List Str := ["wheel", "number"]
theorem sc_leads : FnScope n_leads ["wheel", "number"] (defScope s_leads) := ⟨rfl, rfl, rfl, by decide +kernel, rfl, by decide +kernel, by decide +kernel⟩
abbrev s_shift : Stmt := topS 13
abbrev n_shift : List Str := ["places", "steps", "place"]
theorem sc_shift : FnScope n_shift ["places", "steps"] (defScope s_shift) := ⟨rfl, rfl, rfl, by decide +kernel, rfl, by decide +kernel, by decide +kernel⟩
abbrev s_is_shift : Stmt := topS 14
abbrev n_is_shift : List Str := ["wheel", "own"]
theorem sc_is_shift : FnScope n_is_shift ["wheel"] (defScope s_is_shift) := ⟨rfl, rfl, rfl, by decide +kernel, rfl, by decide +kernel, by decide +kernel⟩
abbrev s_steps_of : Stmt := topS 15
abbrev n_steps_of : List Str := ["wheel", "own"]
theorem sc_steps_of : FnScope n_steps_of ["wheel"] (defScope s_steps_of) := ⟨rfl, rfl, rfl, by decide +kernel, rfl, by decide +kernel, by decide +kernel⟩
abbrev s_behind : Stmt := topS 16
abbrev n_behind : List Str := ["wheel", "other", "number"]
theorem sc_behind : FnScope n_behind ["wheel", "other"] (defScope s_behind) := ⟨rfl, rfl, rfl, by decide +kernel, rfl, by decide +kernel, by decide +kernel⟩
abbrev s_put_in : Stmt := topS 17
abbrev n_put_in : List Str := ["train", "found", "own"]
theorem sc_put_in : FnScope n_put_in ["train"] (defScope s_put_in) := ⟨rfl, rfl, rfl, by decide +kernel, rfl, by decide +kernel, by decide +kernel⟩
abbrev s_put_together : Stmt := topS 18
abbrev n_put_together : List Str := ["train"]
theorem sc_put_together : FnScope n_put_together ["train"] (defScope s_put_together) := ⟨rfl, rfl, rfl, by decide +kernel, rfl, by decide +kernel, by decide +kernel⟩
abbrev s_power : Stmt := topS 19
abbrev n_power : List Str := ["wheel", "beats", "own", "found", "left"]
theorem sc_power : FnScope n_power ["wheel", "beats"] (defScope s_power) := ⟨rfl, rfl, rfl, by decide +kernel, rfl, by decide +kernel, by decide +kernel⟩
abbrev s__law_box : Stmt := topS 21
abbrev n__law_box : List Str := ["_law_script", "_law_k", "_law_bit_so"]
theorem sc__law_box : FnScope n__law_box ["_law_script", "_law_k"] (defScope s__law_box) := ⟨rfl, rfl, rfl, by decide +kernel, rfl, by decide +kernel, by decide +kernel⟩
abbrev s__law_take : Stmt := topS 22
abbrev n__law_take : List Str := ["_law_tin", "_law_below_so", "_law_once_so", "_law_wide_so", "_law_twice_so", "_law_drawn"]
theorem sc__law_take : FnScope n__law_take ["_law_tin", "_law_below_so"] (defScope s__law_take) := ⟨rfl, rfl, rfl, by decide +kernel, rfl, by decide +kernel, by decide +kernel⟩
abbrev s__law_cells : Stmt := topS 23
abbrev n__law_cells : List Str := ["_law_script", "_law_most_so", "_law_cells_so", "_law_k", "_law_bit_so", "_law_at_so"]
theorem sc__law_cells : FnScope n__law_cells ["_law_script", "_law_most_so"] (defScope s__law_cells) := ⟨rfl, rfl, rfl, by decide +kernel, rfl, by decide +kernel, by decide +kernel⟩
abbrev s__law_of : Stmt := topS 24
abbrev n__law_of : List Str := ["_law_tin", "_law_goods_so"]
theorem sc__law_of : FnScope n__law_of ["_law_tin", "_law_goods_so"] (defScope s__law_of) := ⟨rfl, rfl, rfl, by decide +kernel, rfl, by decide +kernel, by decide +kernel⟩
abbrev s__law_lists : Stmt := topS 25
abbrev n__law_lists : List Str := ["_law_matter", "_law_bit"]
theorem sc__law_lists : FnScope n__law_lists ["_law_matter"] (defScope s__law_lists) := ⟨rfl, rfl, rfl, by decide +kernel, rfl, by decide +kernel, by decide +kernel⟩
abbrev s__law_same : Stmt := topS 26
abbrev n__law_same : List Str := ["_law_got", "_law_due", "_law_mine", "_law_its"]
theorem sc__law_same : FnScope n__law_same ["_law_got", "_law_due"] (defScope s__law_same) := ⟨rfl, rfl, rfl, by decide +kernel, rfl, by decide +kernel, by decide +kernel⟩
abbrev s__law_led : Stmt := topS 27
abbrev n__law_led : List Str := ["_law_disk_here", "_law_z"]
theorem sc__law_led : FnScope n__law_led ["_law_disk_here", "_law_z"] (defScope s__law_led) := ⟨rfl, rfl, rfl, by decide +kernel, rfl, by decide +kernel, by decide +kernel⟩
abbrev s__law_shift : Stmt := topS 28
abbrev n__law_shift : List Str := ["_law_ring_so", "_law_m", "_law_k"]
theorem sc__law_shift : FnScope n__law_shift ["_law_ring_so", "_law_m"] (defScope s__law_shift) := ⟨rfl, rfl, rfl, by decide +kernel, rfl, by decide +kernel, by decide +kernel⟩
abbrev s__law_put : Stmt := topS 29
abbrev n__law_put : List Str := ["_law_disks_here", "_law_found", "_law_z", "_law_own"]
theorem sc__law_put : FnScope n__law_put ["_law_disks_here"] (defScope s__law_put) := ⟨rfl, rfl, rfl, by decide +kernel, rfl, by decide +kernel, by decide +kernel⟩
abbrev s__law_disk : Stmt := topS 30
abbrev n__law_disk : List Str := ["_law_tin", "_law_ring_so", "_law_wide_so", "_law_start_so", "_law_kind_so", "_law_disk_here", "_law_k", "_law_j", "_law_own", "_law_lap"]
theorem sc__law_disk : FnScope n__law_disk ["_law_tin", "_law_ring_so"] (defScope s__law_disk) := ⟨rfl, rfl, rfl, by decide +kernel, rfl, by decide +kernel, by decide +kernel⟩
abbrev s__law_disks : Stmt := topS 31
abbrev n__law_disks : List Str := ["_law_tin", "_law_ring_so", "_law_many_so", "_law_lap"]
theorem sc__law_disks : FnScope n__law_disks ["_law_tin", "_law_ring_so", "_law_many_so"] (defScope s__law_disks) := ⟨rfl, rfl, rfl, by decide +kernel, rfl, by decide +kernel, by decide +kernel⟩
abbrev s__law_heard : Stmt := topS 32
abbrev n__law_heard : List Str := ["_law_disk_here", "error"]
theorem sc__law_heard : FnScope n__law_heard ["_law_disk_here"] (defScope s__law_heard) := ⟨rfl, rfl, rfl, by decide +kernel, rfl, by decide +kernel, by decide +kernel⟩
abbrev s__law_hand_right : Stmt := topS 33
abbrev n__law_hand_right : List Str := ["_law_got", "_law_due", "_law_far_so", "_law_great", "_law_one", "_law_two", "_law_half", "_law_own"]
theorem sc__law_hand_right : FnScope n__law_hand_right [] (defScope s__law_hand_right) := ⟨rfl, rfl, rfl, by decide +kernel, rfl, by decide +kernel, by decide +kernel⟩
abbrev s__law_far : Stmt := topS 34
abbrev n__law_far : List Str := ["_law_disk_here", "_law_z", "_law_beats_so", "_law_k", "_law_over_so", "_law_seen", "_law_row", "_law_lap_so", "_law_gain_so"]
theorem sc__law_far : FnScope n__law_far ["_law_disk_here", "_law_z", "_law_beats_so"] (defScope s__law_far) := ⟨rfl, rfl, rfl, by decide +kernel, rfl, by decide +kernel, by decide +kernel⟩
abbrev s__law_right : Stmt := topS 35
abbrev n__law_right : List Str := ["_law_tin", "_law_ring_so", "_law_disks_here", "_law_got", "_law_some_so", "_law_m", "_law_plain_so", "_law_row", "_law_lap", "_law_more_so", "_law_far_so", "_law_own", "_law_due", "_law_n", "_law_k", "_law_z"]
theorem sc__law_right : FnScope n__law_right ["_law_tin"] (defScope s__law_right) := ⟨rfl, rfl, rfl, by decide +kernel, rfl, by decide +kernel, by decide +kernel⟩
abbrev s_law : Stmt := topS 36
abbrev n_law : List Str := ["_law_script", "_law_cells_here", "_law_k"]
theorem sc_law : FnScope n_law ["_law_script"] (defScope s_law) := ⟨rfl, rfl, rfl, by decide +kernel, rfl, by decide +kernel, by decide +kernel⟩
/-- a def of the top, called by its name, keeps a promise -/
structure Dn (P : Program) (w : World) (K : PySem.W.Frag) (mg : Str → Option Value) (base : Heap) (CX : CXT) (x : Str) (k : Nat) (ps : List Str) (sp : Sp) : Prop where
  ex : ∃ (f : Addr) (fd : FuncData), FnOk P w K mg base CX k f fd ps sp ∧ mg x = some (.ref f) ∧ PySem.W.keepIn K (.ref f) = true ∧ Binds K fd ps []
structure FnAt (K : PySem.W.Frag) (mg : Str → Option Value) (x : Str) (st : Stmt) : Prop where
  ex : ∃ (f : Addr) (fd : FuncData), Fun K x x st f fd ∧ mg x = some (.ref f)
section
variable {X : Cx} {k : Nat} {ps : List Str} {sp : Sp} {x : Str} {p pos : Pos} {e : Expr} {es : List Expr} {t : TA}
theorem pe_dn (D : Dn X.prog X.w X.K X.mg X.base CX0 x k ps sp) (hr : Room k X.A) (ha : PA X (e :: es) t) (hg : Gl X x := by rfl) (hdb : (x == ("__debug__" : Str)) = false := by decide)
    (he : starEach (e :: es) X.env = (false, eval e X.env) :: starEach es X.env := by rfl) (hpl : (backTo pos (starEach es X.env)).any (·.1) = false := by rfl) : PE X (.Call (.Name x p) (e :: es) [] pos) (tCall sp [] E0 t) := by
  obtain ⟨f, fd, F, g, kp, b⟩ := D.ex
  exact pe_call F hr hg g kp b .nil pass0 ha hdb he hpl
theorem pe_dn0 (D : Dn X.prog X.w X.K X.mg X.base CX0 x k ps sp) (hr : Room k X.A) (hg : Gl X x := by rfl) (hdb : (x == ("__debug__" : Str)) = false := by decide) : PE X (.Call (.Name x p) [] [] pos) (tCall sp [] E0 tNil) := by
  obtain ⟨f, fd, F, g, kp, b⟩ := D.ex
  exact pe_call0 F hr hg g kp b .nil pass0 hdb
end
/-! the layer's rules with the written part K said outright (in a comprehension's block the context's own would depend on the block) -/
section
variable {X : Cx} {K : PySem.W.Frag}
theorem ixT_K (e : X.K = K := by rfl) : IxR X (rIxT K) := by subst e; exact ix_tup
theorem ixL_K (e : X.K = K := by rfl) : IxR X (rIxL K) := by subst e; exact ix_list
theorem slT_K (e : X.K = K := by rfl) : SlR X (rSlT K) := by subst e; exact sl_tup
theorem slL_K (e : X.K = K := by rfl) : SlR X (rSlL K) := by subst e; exact sl_list
theorem len_K (e : X.K = K := by rfl) : CallR X (.builtin "len") (fun xs H Q => ∃ p ys, xs = [.ref p] ∧ (SqL K H p ys ∨ SqT K H p ys) ∧ Q (.int (ys.length : Nat)) H) := by subst e; exact call_len_seq
theorem list_K (e : X.K = K := by rfl) : CallR X (.type "list") (fun xs H Q => ∃ p ys, xs = [.ref p] ∧ (SqL K H p ys ∨ SqT K H p ys) ∧ ∀ l, H l = none → Q (.ref l) (upd H l (.lst ys))) := by subst e; exact call_list_of
theorem tuple_K (e : X.K = K := by rfl) : CallR X (.type "tuple") (fun xs H Q => ∃ p ys, xs = [.ref p] ∧ ((SqL K H p ys ∧ ∀ l, H l = none → Q (.ref l) (upd H l (.tup ys))) ∨ (SqT K H p ys ∧ Q (.ref p) H))) := by subst e; exact call_tuple_of
theorem all_K (e : X.K = K := by rfl) (hc : X.calm = true := by rfl) : CallR X (.builtin "all") (rAll K) := by subst e; exact cr_all hc
theorem isi_K (e : X.K = K := by rfl) : CallR X (.builtin "isinstance") (rIsi K) := by subst e; exact call_isi
theorem isiT_K (e : X.K = K := by rfl) : CallR X (.builtin "isinstance") (rIsiT K) := by subst e; exact call_isiT
theorem sorted_K (e : X.K = K := by rfl) : CallR X (.builtin "sorted") (rSorted K) := by subst e; exact cr_sorted
theorem eqD_K (hu : X.A.units + 64 < cLine) (e : X.K = K := by rfl) : OpR X (compareOp .Eq) (rEqD K) := by subst e; exact op_eqD hu
theorem back_K {e : Expr} {te : TE} {lo : Option Expr} {tl : TO} {k : Nat} {p1 p2 p3 pos : Pos} (he : PE X e te) (hl : PO X lo tl) (ek : X.K = K := by rfl) : PE X (.Subscript e (.Slice lo none (some (.UnaryOp .USub (.Constant (.int 1) k p1) p2)) p3) pos) (tBack K te tl) := by subst ek; exact pe_back he hl
theorem piL_K {tg e : Expr} {te : TE} (he : PE X e te) (ek : X.K = K := by rfl) : PI X tg e (iList K te) := by subst ek; exact pi_list he
theorem piT_K {tg e : Expr} {te : TE} (he : PE X e te) (ek : X.K = K := by rfl) : PI X tg e (iTup K te) := by subst ek; exact pi_tup he
theorem zip_K {e e2 : Expr} {ta : TA} {p pos tpos : Pos} {elts : List Expr} {kk : Nat} (hg : Gl X "zip") (hm : X.mg "zip" = none) (ha : PA X [e, e2] ta) (ek : X.K = K := by rfl)
    (hs : starEach [e, e2] X.env = (false, eval e X.env) :: starEach [e2] X.env := by rfl) (hpl : (backTo pos (starEach [e2] X.env)).any (·.1) = false := by rfl) : PI X (.Tuple elts kk tpos) (.Call (.Name "zip" p) [e, e2] [] pos) (RZ.iZipA K ta) := by subst ek; exact RZ.pi_zipA hg hm ha hs hpl
end
/-- what the top leaves -/
structure Txt (K : PySem.W.Frag) (mg : Str → Option Value) : Prop where
  b_len : mg "len" = none
  b_zip : mg "zip" = none
  b_all : mg "all" = none
  b_isinstance : mg "isinstance" = none
  b_int : mg "int" = none
  b_bool : mg "bool" = none
  b_str : mg "str" = none
  b_list : mg "list" = none
  b_tuple : mg "tuple" = none
  b_divmod : mg "divmod" = none
  b_range : mg "range" = none
  b_abs : mg "abs" = none
  b_min : mg "min" = none
  b_max : mg "max" = none
  b_sorted : mg "sorted" = none
  b_enumerate : mg "enumerate" = none
  b_ValueError : mg "ValueError" = none
  f_is_number : FnAt K mg "is_number" s_is_number
  f_tupled : FnAt K mg "tupled" s_tupled
  f_is_wheel : FnAt K mg "is_wheel" s_is_wheel
  f_sure_wheel : FnAt K mg "sure_wheel" s_sure_wheel
  f_is_train : FnAt K mg "is_train" s_is_train
  f_sure_train : FnAt K mg "sure_train" s_sure_train
  f_led_in : FnAt K mg "led_in" s_led_in
  f_leads : FnAt K mg "leads" s_leads
  f_shift : FnAt K mg "shift" s_shift
  f_is_shift : FnAt K mg "is_shift" s_is_shift
  f_steps_of : FnAt K mg "steps_of" s_steps_of
  f_behind : FnAt K mg "behind" s_behind
  f_put_in : FnAt K mg "put_in" s_put_in
  f_put_together : FnAt K mg "put_together" s_put_together
  f_power : FnAt K mg "power" s_power
  f__law_box : FnAt K mg "_law_box" s__law_box
  f__law_take : FnAt K mg "_law_take" s__law_take
  f__law_cells : FnAt K mg "_law_cells" s__law_cells
  f__law_of : FnAt K mg "_law_of" s__law_of
  f__law_lists : FnAt K mg "_law_lists" s__law_lists
  f__law_same : FnAt K mg "_law_same" s__law_same
  f__law_led : FnAt K mg "_law_led" s__law_led
  f__law_shift : FnAt K mg "_law_shift" s__law_shift
  f__law_put : FnAt K mg "_law_put" s__law_put
  f__law_disk : FnAt K mg "_law_disk" s__law_disk
  f__law_disks : FnAt K mg "_law_disks" s__law_disks
  f__law_heard : FnAt K mg "_law_heard" s__law_heard
  f__law_hand_right : FnAt K mg "_law_hand_right" s__law_hand_right
  f__law_far : FnAt K mg "_law_far" s__law_far
  f__law_right : FnAt K mg "_law_right" s__law_right
  f_law : FnAt K mg "law" s_law
theorem Dn.of {P : Program} {w : World} {K : PySem.W.Frag} {mg : Str → Option Value} {base : Heap} {CX : CXT} {x : Str} {st : Stmt} {k : Nat} {ps : List Str} {sp : Sp} (A : FnAt K mg x st)
    (ok : ∀ f fd, Fun K x x st f fd → FnOk P w K mg base CX k f fd ps sp) (b : ∀ f fd, Fun K x x st f fd → Binds K fd ps []) : Dn P w K mg base CX x k ps sp := by
  obtain ⟨f, fd, F, g⟩ := A.ex
  exact ⟨f, fd, ok f fd F, g, F.kp, b f fd F⟩
theorem Dn.mono {P : Program} {w : World} {K : PySem.W.Frag} {mg : Str → Option Value} {base : Heap} {CX : CXT} {x : Str} {j k : Nat} {ps : List Str} {sp : Sp} (D : Dn P w K mg base CX x j ps sp) (h : j ≤ k) : Dn P w K mg base CX x k ps sp := by
  obtain ⟨f, fd, F, r⟩ := D.ex
  exact ⟨f, fd, F.mono h, r⟩
end BW

set_option Elab.async false
set_option linter.all false
set_option maxRecDepth 100000
set_option maxHeartbeats 4000000
namespace BW
open PySem PySem.Spec PyProof.Rows L2
local macro_rules | `(tactic| walk_at "wd") => `(tactic| (repeat (first
  | with_reducible refine ws_seq ?_
  | with_reducible refine ws_ret ?_
  | with_reducible refine ws_set ?_
  | with_reducible refine ws_par ?_
  | with_reducible refine ws_next ?_
  | with_reducible refine we_var (by with_unfolding_all rfl) ?_
  | with_reducible refine we_int ?_
  | with_reducible refine we_bl ?_
  | with_reducible refine we_str ?_
  | with_reducible refine we_non ?_
  | with_reducible refine wa_cons ?_
  | with_reducible refine wa_nil ?_
  | with_reducible refine we_tup ?_
  | with_reducible refine we_lst ?_
  | with_reducible refine we_call ?_
  | with_reducible refine we_op2 rd_i0 ?_
  | with_reducible refine we_op2 rd_i ?_
  | with_reducible refine we_op2 rd_ixT ?_
  | with_reducible refine we_op2 rd_ixL ?_
  | with_reducible refine we_op2 rd_cat ?_
  | with_reducible refine we_neg ?_
  | with_reducible refine we_cb cd_len ?_
  | with_reducible refine we_cb cd_list ?_
  | with_reducible refine we_cb cd_tuple ?_
  | with_reducible refine we_cb cd_all ?_
  | with_reducible refine we_cb cd_divmod ?_
  | with_reducible refine we_isi (by decide) ?_
  | with_reducible refine we_isi2 (by decide) (by decide) ?_
  | with_reducible refine we_if ?_
  | with_reducible refine ws_if ?_
  | with_reducible refine wt_b ?_
  | with_reducible refine wt_test ?_
  | with_reducible refine wt_not ?_
  | with_reducible refine wt_or ?_
  | with_reducible refine wt_and ?_
  | with_reducible refine we_notV ?_
  | with_reducible refine we_andV ?_
  | with_reducible refine we_orV ?_
  | with_reducible refine we_back ?_
  | with_reducible refine wo_none ?_
  | with_reducible refine wo_some ?_
  | with_reducible refine ⟨_, _, rfl, rfl, rfl, ?_⟩
  | with_reducible refine ⟨by with_unfolding_all rfl, ?_⟩
  | refine ⟨_, rfl, ?_⟩
  | with_reducible refine ⟨_, _, rfl, ?_⟩
  | refine ⟨_, _, rfl, Or.inr rfl, ?_⟩
  | refine ⟨_, _, rfl, Or.inl rfl, ?_⟩
  | refine ⟨Nat.le_of_ble_eq_true (by with_unfolding_all rfl), ?_⟩
  )))
def dT (w : List Int) : PyData := .tuple (w.map PyData.int)
def dL (w : List Int) : PyData := .list (w.map PyData.int)
theorem at_ints {w : List Int} {z : Int} (h0 : 0 ≤ z) (h1 : z < w.length) : L2.atI (w.map PyData.int) z = some (.int (w.getD z.toNat 0)) := by
  have h2 : z.toNat < w.length := by omega
  have e : (w.map PyData.int)[z.toNat]? = some (.int (w.getD z.toNat 0)) := by
    rw [List.getElem?_map, List.getD_eq_getElem?_getD, List.getElem?_eq_getElem h2]
    rfl
  have q := atI_nat e
  rw [Int.toNat_of_nonneg h0] at q
  exact q
/-! small data -/
def atomD : PyData → Bool
  | .list _ => false
  | .tuple _ => false
  | .dict _ => false
  | _ => true
def okD : Nat → PyData → Prop
  | 0, d => atomD d = true
  | k + 1, d => match d with
    | .list ds => ds.length ≤ 1000 ∧ ∀ x ∈ ds, okD k x
    | .tuple ds => ds.length ≤ 1000 ∧ ∀ x ∈ ds, okD k x
    | .dict _ => False
    | _ => True
mutual
def tupD : PyData → PyData
  | .list ds => .tuple (tupDs ds)
  | .tuple ds => .tuple (tupDs ds)
  | d => d
def tupDs : List PyData → List PyData
  | [] => []
  | d :: ds => tupD d :: tupDs ds
end
theorem tupDs_map : ∀ ds, tupDs ds = ds.map tupD
  | [] => by unfold tupDs; rfl
  | d :: ds => by
    unfold tupDs
    rw [tupDs_map ds]
    rfl
theorem tupD_list (ds : List PyData) : tupD (.list ds) = .tuple (ds.map tupD) := by
  show PyData.tuple (tupDs ds) = _
  rw [tupDs_map]
theorem tupD_tuple (ds : List PyData) : tupD (.tuple ds) = .tuple (ds.map tupD) := by
  show PyData.tuple (tupDs ds) = _
  rw [tupDs_map]
theorem tupD_int (i : Int) : tupD (.int i) = .int i := rfl
theorem tup_ints (w : List Int) : (w.map PyData.int).map tupD = w.map PyData.int := by
  rw [List.map_map]
  rfl
theorem tupD_dT (w : List Int) : tupD (dT w) = dT w := by
  show tupD (.tuple _) = _
  rw [tupD_tuple, tup_ints]
  rfl
theorem tupD_dL (w : List Int) : tupD (dL w) = dT w := by
  show tupD (.list _) = _
  rw [tupD_list, tup_ints]
  rfl
/-- a WHEEL's data: a tuple, or a list -/
def IsD (d : PyData) (w : List Int) : Prop := d = dT w ∨ d = dL w
theorem IsD.tup {d : PyData} {w : List Int} (h : IsD d w) : tupD d = dT w := by
  rcases h with rfl | rfl
  · exact tupD_dT w
  · exact tupD_dL w
theorem ok_int (k : Nat) (i : Int) : okD k (.int i) := by cases k with
  | zero => rfl
  | succ k => trivial
theorem IsD.ok {d : PyData} {w : List Int} (h : IsD d w) (hl : w.length ≤ 1000) (k : Nat) : okD (k + 1) d := by
  rcases h with rfl | rfl
  all_goals
    refine ⟨by rw [List.length_map]; exact hl, fun x hx => ?_⟩
    obtain ⟨i, _, rfl⟩ := List.mem_map.mp hx
    exact ok_int k i
theorem isi_ii (i : Int) : isiD (.int i) "int" = true := by show (kitB "int" "int" == some true) = true; decide +kernel
theorem isi_ib (i : Int) : isiD (.int i) "bool" = false := by show (kitB "int" "bool" == some true) = false; decide +kernel
theorem isi_it (i : Int) : isiD (.int i) "tuple" = false := by show (kitB "int" "tuple" == some true) = false; decide +kernel
theorem isi_il (i : Int) : isiD (.int i) "list" = false := by show (kitB "int" "list" == some true) = false; decide +kernel
theorem isi_is (i : Int) : isiD (.int i) "str" = false := by show (kitB "int" "str" == some true) = false; decide +kernel
theorem isi_tt (i : List PyData) : isiD (.tuple i) "tuple" = true := by show (kitB "tuple" "tuple" == some true) = true; decide +kernel
theorem isi_tl (i : List PyData) : isiD (.tuple i) "list" = false := by show (kitB "tuple" "list" == some true) = false; decide +kernel
theorem isi_ti (i : List PyData) : isiD (.tuple i) "int" = false := by show (kitB "tuple" "int" == some true) = false; decide +kernel
theorem isi_tb (i : List PyData) : isiD (.tuple i) "bool" = false := by show (kitB "tuple" "bool" == some true) = false; decide +kernel
theorem isi_lt (i : List PyData) : isiD (.list i) "tuple" = false := by show (kitB "list" "tuple" == some true) = false; decide +kernel
theorem isi_ll (i : List PyData) : isiD (.list i) "list" = true := by show (kitB "list" "list" == some true) = true; decide +kernel
theorem isi_li (i : List PyData) : isiD (.list i) "int" = false := by show (kitB "list" "int" == some true) = false; decide +kernel
theorem isi_lb (i : List PyData) : isiD (.list i) "bool" = false := by show (kitB "list" "bool" == some true) = false; decide +kernel
theorem isi_atom {d : PyData} (h : atomD d = true) : (isiD d "list" || isiD d "tuple") = false := by
  cases d with
  | none => show (kitB "NoneType" "list" == some true || kitB "NoneType" "tuple" == some true) = false; decide +kernel
  | bool b => show (kitB "bool" "list" == some true || kitB "bool" "tuple" == some true) = false; decide +kernel
  | int b => show (kitB "int" "list" == some true || kitB "int" "tuple" == some true) = false; decide +kernel
  | str b => show (kitB "str" "list" == some true || kitB "str" "tuple" == some true) = false; decide +kernel
  | list b => cases h
  | tuple b => cases h
  | dict b => cases h
theorem tupD_atom {d : PyData} (h : atomD d = true) : tupD d = d := by
  cases d with
  | list b => cases h
  | tuple b => cases h
  | dict b => cases h
  | _ => rfl
/-- an expression that is never come to -/
theorem pe_never {X : Cx} {e : Expr} : PE X e (fun _ _ _ => False) := ⟨fun _ _ _ _ _ _ h => False.elim h⟩
section
variable {P : Program} {w : World} {K : PySem.W.Frag} {mg : Str → Option Value} {base : Heap}
def R_isnum (ds : List PyData) (Φ : PyData → Prop) : Prop := ∃ d, ds = [d] ∧ Φ (.bool (isiD d "int" && !isiD d "bool"))
theorem dn_is_number (T : Txt K mg) : Dn P w K mg base CX0 "is_number" 1 ["thing"] (spD 1 R_isnum) := by
  refine Dn.of T.f_is_number (fun f fd F => F.ok sc_is_number (fun vs H Q E h => spD_len h) (fun cdv A outer s H vs Q E hr h => ⟨_, (pss_one (ps_ret (pe_and (pe_callB (isi_K (K := K)) (by rfl) T.b_isinstance (by decide +kernel) (pa_cons (pv 0) (pa_cons (pe_bltn (v := .ty "int") (by rfl) T.b_int (by decide +kernel) rfl) pa_nil))) (pe_one (pe_not (pe_callB (isi_K (K := K)) (by rfl) T.b_isinstance (by decide +kernel) (pa_cons (pv 0) (pa_cons (pe_bltn (v := .ty "bool") (by rfl) T.b_bool (by decide +kernel) rfl) pa_nil)))))))), fn_D h ?_⟩)) (fun f fd F => F.binds fun _ _ _ _ _ _ us hl => match us, hl with | [_], _ => rfl)
  intro ds Φ _ hR
  obtain ⟨d, rfl, h⟩ := hR
  walk_at "wd"
  refine ⟨fun e => ?_, fun e => ?_⟩
  · rw [e] at h
    exact h
  · walk_at "wd"
    rw [e] at h
    exact h
def R_tup (k : Nat) (ds : List PyData) (Φ : PyData → Prop) : Prop := ∃ d, ds = [d] ∧ okD k d ∧ Φ (tupD d)
theorem dn_tupled (T : Txt K mg) : ∀ k : Nat, Dn P w K mg base CX0 "tupled" (k + 1) ["value"] (spD 1 (R_tup k)) := by
  have atom : ∀ (k : Nat) (f : Addr) (fd : FuncData) (F : Fun K "tupled" "tupled" s_tupled f fd) (cdv : Value) (A : Around) (outer : List Env) (s : Shared) (H : Hp) (vs : List V) (Q : VK) (E : XK), (∃ (G : Hp) (d : PyData) (Φ : PyData → Prop), atomD d = true ∧ Same G H ∧ DtAll G [d] vs ∧ Φ d ∧
      ∀ v d G' H', Φ d → Tr none G H G' H' → Same G' H' → Dt G' d v → Q v H') → ∃ t, PSs (cxOf CX0 P w K mg base n_tupled "tupled" (defScope s_tupled) f cdv A outer s H E).nox (defBody s_tupled) t ∧ t { nx := fun _ H' => Q .non H', rt := Q } (L2.start n_tupled vs) H := by
    intro k f fd F cdv A outer s H vs Q E h
    refine ⟨_, (pss_one (ps_ret (pe_ifExp (pt_val (pe_callB (isiT_K (K := K)) (by rfl) T.b_isinstance (by decide +kernel) (pa_cons (pv 0) (pa_cons (pe_tup (pa_cons (pe_bltn (v := .ty "list") (by rfl) T.b_list (by decide +kernel) rfl) (pa_cons (pe_bltn (v := .ty "tuple") (by rfl) T.b_tuple (by decide +kernel) rfl) pa_nil))) pa_nil)))) pe_never (pv 0)))), ?_⟩
    obtain ⟨G, d, Φ, ha, s1, x, hΦ, q⟩ := h
    refine fn_D (E := E) (ar := 1) (F := fun ds Φ' => ds = [d] ∧ Φ' d) ⟨G, [d], Φ, rfl, s1, x, ⟨rfl, hΦ⟩, q⟩ ?_
    rintro ds Φ' _ ⟨rfl, h⟩
    walk_at "wd"
    refine ⟨fun e => ?_, fun e => ?_⟩
    · rw [isi_atom ha] at e
      cases e
    · walk_at "wd"
      exact h
  intro k
  induction k with
  | zero =>
    refine Dn.of T.f_tupled (fun f fd F => F.ok sc_tupled (fun vs H Q E h => spD_len h) (fun cdv A outer s H vs Q E hr h => atom 0 f fd F cdv A outer s H vs Q E ?_)) (fun f fd F => F.binds fun _ _ _ _ _ _ us hl => match us, hl with | [_], _ => rfl)
    obtain ⟨G, ds, Φ, e, s1, x, ⟨d, rfl, ho, hΦ⟩, q⟩ := h
    rw [tupD_atom ho] at hΦ
    exact ⟨G, d, Φ, ho, s1, x, hΦ, q⟩
  | succ k D_tupled =>
    refine Dn.of T.f_tupled (fun f fd F => F.ok sc_tupled (fun vs H Q E h => spD_len h) (fun cdv A outer s H vs Q E hr h => ?_)) (fun f fd F => F.binds fun _ _ _ _ _ _ us hl => match us, hl with | [_], _ => rfl)
    obtain ⟨G, ds, Φ, e, s1, x, ⟨d, rfl, ho, hΦ⟩, q⟩ := h
    cases hd : atomD d with
    | true =>
      rw [tupD_atom hd] at hΦ
      exact atom k f fd F cdv A outer s H vs Q E ⟨G, d, Φ, hd, s1, x, hΦ, q⟩
    | false =>
      cases d with
      | list es =>
        obtain ⟨hl, hk⟩ := ho
        refine ⟨_, (pss_one (ps_ret (pe_ifExp (pt_val (pe_callB (isiT_K (K := K)) (by rfl) T.b_isinstance (by decide +kernel) (pa_cons (pv 0) (pa_cons (pe_tup (pa_cons (pe_bltn (v := .ty "list") (by rfl) T.b_list (by decide +kernel) rfl) (pa_cons (pe_bltn (v := .ty "tuple") (by rfl) T.b_tuple (by decide +kernel) rfl) pa_nil))) pa_nil)))) (pe_callTy (tuple_K (K := K)) (by rfl) T.b_tuple (by decide +kernel) (pa_cons (pe_lc (own := [("own", 1)]) (g := gName 1) (tt := tYes) rfl sc_tupled.nd (piL_K (K := K) (pv 0)) (blkOk_by (N := n_tupled) (sc := defScope s_tupled) (by decide +kernel)) (fun _ _ _ _ _ => (pg_name (i := 1) sc_tupled.nd rfl (Or.inl rfl))) (fun _ _ _ _ _ => pts_nil) (fun _ _ _ _ _ => (pe_dn D_tupled (hr.mono (by omega)) (pa_cons (pv 1) pa_nil)))) pa_nil)) (pv 0)))), fn_D (E := E) (ar := 1) (F := fun ds Φ' => ds = [.list es] ∧ Φ' (tupD (.list es))) ⟨G, [.list es], Φ, rfl, s1, x, ⟨rfl, hΦ⟩, q⟩ ?_⟩
        rintro ds Φ' _ ⟨rfl, h⟩
        rw [tupD_list] at h
        walk_at "wd"
        refine ⟨fun e => ?_, fun e => ?_⟩
        · walk_at "wd"
          refine we_lc (tg_name 1) (WI.t (wi_list ?_))
          walk_at "wd"
          refine ⟨hl, fun _ _ => trivial, lc_map (g := tupD) (fun y hy n' Φ2 h2 => ?_) ?_⟩
          · walk_at "wd"
            exact ⟨hk y hy, h2⟩
          · walk_at "wd"
            exact h
        · rw [isi_ll] at e
          cases e
      | tuple es =>
        obtain ⟨hl, hk⟩ := ho
        refine ⟨_, (pss_one (ps_ret (pe_ifExp (pt_val (pe_callB (isiT_K (K := K)) (by rfl) T.b_isinstance (by decide +kernel) (pa_cons (pv 0) (pa_cons (pe_tup (pa_cons (pe_bltn (v := .ty "list") (by rfl) T.b_list (by decide +kernel) rfl) (pa_cons (pe_bltn (v := .ty "tuple") (by rfl) T.b_tuple (by decide +kernel) rfl) pa_nil))) pa_nil)))) (pe_callTy (tuple_K (K := K)) (by rfl) T.b_tuple (by decide +kernel) (pa_cons (pe_lc (own := [("own", 1)]) (g := gName 1) (tt := tYes) rfl sc_tupled.nd (piT_K (K := K) (pv 0)) (blkOk_by (N := n_tupled) (sc := defScope s_tupled) (by decide +kernel)) (fun _ _ _ _ _ => (pg_name (i := 1) sc_tupled.nd rfl (Or.inl rfl))) (fun _ _ _ _ _ => pts_nil) (fun _ _ _ _ _ => (pe_dn D_tupled (hr.mono (by omega)) (pa_cons (pv 1) pa_nil)))) pa_nil)) (pv 0)))), fn_D (E := E) (ar := 1) (F := fun ds Φ' => ds = [.tuple es] ∧ Φ' (tupD (.tuple es))) ⟨G, [.tuple es], Φ, rfl, s1, x, ⟨rfl, hΦ⟩, q⟩ ?_⟩
        rintro ds Φ' _ ⟨rfl, h⟩
        rw [tupD_tuple] at h
        walk_at "wd"
        refine ⟨fun e => ?_, fun e => ?_⟩
        · walk_at "wd"
          refine we_lc (tg_name 1) (WI.t (wi_tup ?_))
          walk_at "wd"
          refine ⟨hl, fun _ _ => trivial, lc_map (g := tupD) (fun y hy n' Φ2 h2 => ?_) ?_⟩
          · walk_at "wd"
            exact ⟨hk y hy, h2⟩
          · walk_at "wd"
            exact h
        · rw [isi_tt, isi_tl] at e
          cases e
      | dict _ => exact ho.elim
      | _ => cases hd
def R_led (ds : List PyData) (Φ : PyData → Prop) : Prop := ∃ w z, ds = [dT w, .int z] ∧ w ≠ [] ∧ w.length ≤ 1000 ∧ Φ (.int (led w z))
theorem dn_led_in (T : Txt K mg) : Dn P w K mg base CX0 "led_in" 1 ["wheel", "number"] (spD 2 R_led) := by
  refine Dn.of T.f_led_in (fun f fd F => F.ok sc_led_in (fun vs H Q E h => spD_len h) (fun cdv A outer s H vs Q E hr h => ⟨_, (pss_cons (ps_asg (pe_callB call_divmod (by rfl) T.b_divmod (by decide +kernel) (pa_cons (pv 1) (pa_cons (pe_callB (len_K (K := K)) (by rfl) T.b_len PySem.boot_len (pa_cons (pv 0) pa_nil)) pa_nil))) (pg_tup rfl (pgs_cons (pg_name (i := 2) sc_led_in.nd rfl (Or.inl rfl)) (pgs_cons (pg_name (i := 3) sc_led_in.nd rfl (Or.inl rfl)) pgs_nil)))) (pss_one (ps_ret (pe_op op_add (pe_ix (ixT_K (K := K)) (pv 0) (pv 3) (fun _ _ => rfl)) (pe_op op_mul (pv 2) (pe_callB (len_K (K := K)) (by rfl) T.b_len PySem.boot_len (pa_cons (pv 0) pa_nil))))))), fn_D h ?_⟩)) (fun f fd F => F.binds fun _ _ _ _ _ _ us hl => match us, hl with | [_, _], _ => rfl)
  intro ds Φ _ hR
  obtain ⟨w, z, rfl, hw, hl, h⟩ := hR
  have hp := List.length_pos_iff.mpr hw
  obtain ⟨m0, m1, m2⟩ := mod_lt hw z
  refine ws_seq (ws_asg (tg_pair (by decide)) ?_)
  walk_at "wd"
  rw [List.length_map]
  walk_at "wd"
  refine ⟨⟨by omega, by omega⟩, ⟨_, _, rfl⟩, ?_⟩
  walk_at "wd"
  refine ⟨_, _, _, rfl, rfl, at_ints m0 m1, ?_⟩
  walk_at "wd"
  rw [List.length_map]
  walk_at "wd"
  refine ⟨_, _, rfl, rfl, .inr ⟨by omega, by omega⟩, rfl, ?_⟩
  walk_at "wd"
  exact h
end
end BW

set_option Elab.async false
set_option linter.all false
set_option maxRecDepth 100000
set_option maxHeartbeats 4000000
namespace BW
open PySem PySem.Spec PyProof.Rows L2
local macro_rules | `(tactic| walk_at "wd") => `(tactic| (repeat (first
  | with_reducible refine ws_seq ?_
  | with_reducible refine ws_ret ?_
  | with_reducible refine ws_set ?_
  | with_reducible refine ws_par ?_
  | with_reducible refine ws_next ?_
  | with_reducible refine we_var (by with_unfolding_all rfl) ?_
  | with_reducible refine we_int ?_
  | with_reducible refine we_bl ?_
  | with_reducible refine we_str ?_
  | with_reducible refine we_non ?_
  | with_reducible refine wa_cons ?_
  | with_reducible refine wa_nil ?_
  | with_reducible refine we_tup ?_
  | with_reducible refine we_lst ?_
  | with_reducible refine we_call ?_
  | with_reducible refine we_op2 rd_i0 ?_
  | with_reducible refine we_op2 rd_i ?_
  | with_reducible refine we_op2 rd_ixT ?_
  | with_reducible refine we_op2 rd_ixL ?_
  | with_reducible refine we_op2 rd_cat ?_
  | with_reducible refine we_neg ?_
  | with_reducible refine we_cb cd_len ?_
  | with_reducible refine we_cb cd_list ?_
  | with_reducible refine we_cb cd_tuple ?_
  | with_reducible refine we_cb cd_all ?_
  | with_reducible refine we_cb cd_divmod ?_
  | with_reducible refine we_isi (by decide) ?_
  | with_reducible refine we_isi2 (by decide) (by decide) ?_
  | with_reducible refine we_if ?_
  | with_reducible refine ws_if ?_
  | with_reducible refine wt_b ?_
  | with_reducible refine wt_test ?_
  | with_reducible refine wt_not ?_
  | with_reducible refine wt_or ?_
  | with_reducible refine wt_and ?_
  | with_reducible refine we_notV ?_
  | with_reducible refine we_andV ?_
  | with_reducible refine we_orV ?_
  | with_reducible refine we_back ?_
  | with_reducible refine wo_none ?_
  | with_reducible refine wo_some ?_
  | with_reducible refine ⟨_, _, rfl, rfl, rfl, ?_⟩
  | with_reducible refine ⟨by with_unfolding_all rfl, ?_⟩
  | refine ⟨_, rfl, ?_⟩
  | with_reducible refine ⟨_, _, rfl, ?_⟩
  | refine ⟨_, _, rfl, Or.inr rfl, ?_⟩
  | refine ⟨_, _, rfl, Or.inl rfl, ?_⟩
  | refine ⟨Nat.le_of_ble_eq_true (by with_unfolding_all rfl), ?_⟩
  )))
section
variable {P : Program} {w : World} {K : PySem.W.Frag} {mg : Str → Option Value} {base : Heap}
theorem all_nums (w : List Int) : ((w.map PyData.int).map fun d => PyData.bool (isiD d "int" && !isiD d "bool")) = (w.map fun _ => true).map PyData.bool := by
  rw [List.map_map, List.map_map]
  apply List.map_congr_left
  intro i _
  show PyData.bool (isiD (.int i) "int" && !isiD (.int i) "bool") = PyData.bool true
  rw [isi_ii, isi_ib]
  rfl
theorem zip_le (w u : List Int) : (List.zipWith pairD (w.map PyData.int) (u.map PyData.int)).map (fun d => match d with | .tuple [.int a, .int b] => PyData.bool (decide (a ≤ b)) | _ => .none) = (List.zipWith (fun a b => decide (a ≤ b)) w u).map PyData.bool := by
  rw [List.zipWith_map, List.map_zipWith, List.map_zipWith]
  rfl
theorem zip_shape {w u : List Int} {d : PyData} (h : d ∈ List.zipWith pairD (w.map PyData.int) (u.map PyData.int)) : ∃ a b : Int, d = .tuple [.int a, .int b] := by
  rw [List.zipWith_map] at h
  obtain ⟨i, hi⟩ := List.mem_iff_getElem?.mp h
  rw [List.getElem?_zipWith] at hi
  split at hi
  · exact ⟨_, _, (Option.some.inj hi).symm⟩
  · cases hi
theorem isWb_nil : isWb [] = false := rfl
theorem isWb_ne {w : List Int} (h : w ≠ []) : isWb w = ((List.zipWith (fun a b => decide (a ≤ b)) w (w.drop 1)).all id && decide (w.getD (w.length - 1) 0 ≤ w.getD 0 0 + (w.length : Int))) := by
  unfold isWb
  cases w with
  | nil => exact absurd rfl h
  | cons a r => rfl
theorem at_last {w : List Int} (h : w ≠ []) : L2.atI (w.map PyData.int) (-1) = some (.int (w.getD (w.length - 1) 0)) := by
  have hl := List.length_pos_iff.mpr h
  have e : L2.ixN (w.map PyData.int).length (-1) = some (w.length - 1) := by
    unfold L2.ixN
    rw [List.length_map, if_neg (by decide), if_pos (by omega)]
    congr 1
    omega
  unfold L2.atI
  rw [e]
  show (w.map PyData.int)[w.length - 1]? = _
  rw [List.getElem?_map, List.getD_eq_getElem?_getD, List.getElem?_eq_getElem (show w.length - 1 < w.length by omega)]
  rfl
def R_isw (ds : List PyData) (Φ : PyData → Prop) : Prop := (∃ w, ds = [dT w] ∧ w.length ≤ 1000 ∧ Φ (.bool (isWb w))) ∨ (∃ es, ds = [.list es] ∧ Φ (.bool false))
theorem dn_is_wheel (T : Txt K mg) : Dn P w K mg base CX0 "is_wheel" 2 ["thing"] (spD 1 R_isw) := by
  have D_is_number := dn_is_number (P := P) (w := w) (base := base) T
  refine Dn.of T.f_is_wheel (fun f fd F => F.ok sc_is_wheel (fun vs H Q E h => spD_len h) (fun cdv A outer s H vs Q E hr h => ⟨_, (pss_cons (ps_if (PW.pt (pw_or (pt_not (pt_val (pe_callB (isi_K (K := K)) (by rfl) T.b_isinstance (by decide +kernel) (pa_cons (pv 0) (pa_cons (pe_bltn (v := .ty "tuple") (by rfl) T.b_tuple (by decide +kernel) rfl) pa_nil))))) (pw_or (pt_cmpR op_eq (pe_callB (len_K (K := K)) (by rfl) T.b_len PySem.boot_len (pa_cons (pv 0) pa_nil)) pe_int (nomark _)) (pw_or1 (pt_not (pt_val (pe_callB (all_K (K := K)) (by rfl) T.b_all (by decide +kernel) (pa_cons (pe_lc (own := [("own", 3)]) (g := gName 3) (tt := tYes) rfl sc_is_wheel.nd (piT_K (K := K) (pv 0)) (blkOk_by (N := n_is_wheel) (sc := defScope s_is_wheel) (by decide +kernel)) (fun _ _ _ _ _ => (pg_name (i := 3) sc_is_wheel.nd rfl (Or.inl rfl))) (fun _ _ _ _ _ => pts_nil) (fun _ _ _ _ _ => (pe_dn D_is_number (hr.mono (by omega)) (pa_cons (pv 3) pa_nil)))) pa_nil)))))))) (pss_one (ps_ret pe_bl)) pss_nil) (pss_cons (ps_if (pt_not (pt_val (pe_callB (all_K (K := K)) (by rfl) T.b_all (by decide +kernel) (pa_cons (pe_lc (own := [("near", 1), ("far", 2)]) (g := gTup _ 2 (gCons (gName 1) (gCons (gName 2) gNil))) (tt := tYes) rfl sc_is_wheel.nd (zip_K (K := K) (by rfl) T.b_zip (pa_cons (pv 0) (pa_cons (pe_slice (slT_K (K := K)) (pv 0) (po_some pe_int) po_none) pa_nil))) (blkOk_by (N := n_is_wheel) (sc := defScope s_is_wheel) (by decide +kernel)) (fun _ _ _ _ _ => (pg_tup rfl (pgs_cons (pg_name (i := 1) sc_is_wheel.nd rfl (Or.inl rfl)) (pgs_cons (pg_name (i := 2) sc_is_wheel.nd rfl (Or.inl rfl)) pgs_nil)))) (fun _ _ _ _ _ => pts_nil) (fun _ _ _ _ _ => (pe_cmpR op_le (pv 1) (pv 2) (nomark _)))) pa_nil)))) (pss_one (ps_ret pe_bl)) pss_nil) (pss_one (ps_ret (pe_cmpR op_le (pe_ix (ixT_K (K := K)) (pv 0) (pe_un un_neg pe_int) (fun _ _ => rfl)) (pe_op op_add (pe_ix (ixT_K (K := K)) (pv 0) pe_int (fun _ _ => rfl)) (pe_callB (len_K (K := K)) (by rfl) T.b_len PySem.boot_len (pa_cons (pv 0) pa_nil))) (nomark _)))))), fn_D h ?_⟩)) (fun f fd F => F.binds fun _ _ _ _ _ _ us hl => match us, hl with | [_], _ => rfl)
  intro ds Φ _ hR
  rcases hR with ⟨w, rfl, hl, h⟩ | ⟨es, rfl, h⟩
  · walk_at "wd"
    show (_ → _) ∧ (_ → _)
    rw [show isiD (dT w) "tuple" = true from isi_tt _]
    refine ⟨fun e => (by cases e), fun _ => ?_⟩
    walk_at "wd"
    refine we_op2 rd_eqI ?_
    walk_at "wd"
    refine ⟨_, _, rfl, rfl, ?_⟩
    walk_at "wd"
    rw [List.length_map]
    by_cases hw : w = []
    · subst hw
      refine ⟨fun _ => ?_, fun e => (by cases e)⟩
      refine ⟨fun _ => ?_, fun e => (by cases e)⟩
      walk_at "wd"
      exact h
    · have hp := List.length_pos_iff.mpr hw
      rw [isWb_ne hw] at h
      refine ⟨fun e => (by have := of_decide_eq_true e; omega), fun _ => ?_⟩
      walk_at "wd"
      refine we_lc (tg_name 3) (WI.t (wi_tup ?_))
      walk_at "wd"
      refine ⟨by rw [List.length_map]; exact hl, fun _ _ => trivial, lc_map (g := fun d => PyData.bool (isiD d "int" && !isiD d "bool")) (fun y hy n' Φ2 h2 => ?_) ?_⟩
      · walk_at "wd"
        exact h2
      · rw [all_nums]
        walk_at "wd"
        refine ⟨fun e => ?_, fun _ => ?_⟩
        · simp at e
        · walk_at "wd"
          refine we_lc (tg_pair (by decide)) (WI.t (wi_zip ?_))
          walk_at "wd"
          refine we_tail ?_
          walk_at "wd"
          refine ⟨by simpa using hw, ?_⟩
          rw [← List.map_drop]
          walk_at "wd"
          refine ⟨_, _, .inr rfl, ?_, fun d hd => ?_, lc_map (g := fun d => match d with | .tuple [.int a, .int b] => PyData.bool (decide (a ≤ b)) | _ => .none) (fun y hy n' Φ2 h2 => ?_) ?_⟩
          · rw [List.length_zipWith, List.length_map]
            omega
          · obtain ⟨a, b, rfl⟩ := zip_shape hd
            exact ⟨_, _, rfl⟩
          · obtain ⟨a, b, rfl⟩ := zip_shape hy
            walk_at "wd"
            exact h2
          · rw [zip_le]
            walk_at "wd"
            cases hz : (List.zipWith (fun a b => decide (a ≤ b)) w (w.drop 1)).all id with
            | false =>
              rw [hz] at h
              refine ⟨fun _ => ?_, fun e => (by cases e)⟩
              walk_at "wd"
              exact h
            | true =>
              rw [hz] at h
              refine ⟨fun e => (by cases e), fun _ => ?_⟩
              walk_at "wd"
              refine ⟨_, _, _, rfl, rfl, at_last hw, ?_⟩
              walk_at "wd"
              refine ⟨_, _, _, rfl, rfl, at_ints (z := 0) (by decide) (by omega), ?_⟩
              walk_at "wd"
              rw [List.length_map]
              walk_at "wd"
              exact h
  · walk_at "wd"
    show (_ → _) ∧ (_ → _)
    rw [isi_lt]
    refine ⟨fun _ => ?_, fun e => (by cases e)⟩
    refine ⟨fun _ => ?_, fun e => (by cases e)⟩
    walk_at "wd"
    exact h
def R_sw (ds : List PyData) (Φ : PyData → Prop) : Prop := ∃ d w, ds = [d] ∧ IsD d w ∧ isWb w = true ∧ w.length ≤ 1000 ∧ Φ (dT w)
theorem dn_sure_wheel (T : Txt K mg) : Dn P w K mg base CX0 "sure_wheel" 3 ["wheel"] (spD 1 R_sw) := by
  have D_tupled := dn_tupled (P := P) (w := w) (base := base) T 1
  have D_is_wheel := dn_is_wheel (P := P) (w := w) (base := base) T
  refine Dn.of T.f_sure_wheel (fun f fd F => F.ok sc_sure_wheel (fun vs H Q E h => spD_len h) (fun cdv A outer s H vs Q E hr h => ⟨_, (pss_cons (ps_set (i := 1) sc_sure_wheel.nd rfl (Or.inl rfl) (pe_dn D_tupled (hr.mono (by omega)) (pa_cons (pv 0) pa_nil))) (pss_cons (ps_if (pt_not (pt_val (pe_dn D_is_wheel (hr.mono (by omega)) (pa_cons (pv 1) pa_nil)))) (pss_one ps_never) pss_nil) (pss_one (ps_ret (pv 1))))), fn_D h ?_⟩)) (fun f fd F => F.binds fun _ _ _ _ _ _ us hl => match us, hl with | [_], _ => rfl)
  intro ds Φ _ hR
  obtain ⟨d, w, rfl, hd, hw, hl, h⟩ := hR
  walk_at "wd"
  refine ⟨hd.ok hl 0, ?_⟩
  rw [hd.tup]
  walk_at "wd"
  refine .inl ⟨w, rfl, hl, ?_⟩
  walk_at "wd"
  rw [hw]
  refine ⟨fun e => (by cases e), fun _ => ?_⟩
  walk_at "wd"
  exact h
def AllW (N : Nat) (ws : List (List Int)) : Prop := ws ≠ [] ∧ ws.length ≤ 1000 ∧ N ≤ 1000 ∧ ∀ w ∈ ws, isWb w = true ∧ w.length = N
theorem all_dT (ws : List (List Int)) : ((ws.map dT).map fun d => match d with | .tuple es => PyData.bool (decide ((es.length : Int) = ((ws.headD []).length : Int))) | _ => .none) = (ws.map fun w => decide ((w.length : Int) = ((ws.headD []).length : Int))).map PyData.bool := by
  rw [List.map_map, List.map_map]
  apply List.map_congr_left
  intro u _
  show PyData.bool (decide (((u.map PyData.int).length : Int) = _)) = _
  rw [List.length_map]
  rfl
def R_ist (ds : List PyData) (Φ : PyData → Prop) : Prop := (∃ N ws, ds = [.tuple (ws.map dT)] ∧ AllW N ws ∧ Φ (.bool true)) ∨ (∃ es, ds = [.list es] ∧ Φ (.bool false))
theorem dn_is_train (T : Txt K mg) : Dn P w K mg base CX0 "is_train" 3 ["thing"] (spD 1 R_ist) := by
  have D_is_wheel := dn_is_wheel (P := P) (w := w) (base := base) T
  refine Dn.of T.f_is_train (fun f fd F => F.ok sc_is_train (fun vs H Q E h => spD_len h) (fun cdv A outer s H vs Q E hr h => ⟨_, (pss_cons (ps_if (PW.pt (pw_or (pt_not (pt_val (pe_callB (isi_K (K := K)) (by rfl) T.b_isinstance (by decide +kernel) (pa_cons (pv 0) (pa_cons (pe_bltn (v := .ty "tuple") (by rfl) T.b_tuple (by decide +kernel) rfl) pa_nil))))) (pw_or (pt_cmpR op_eq (pe_callB (len_K (K := K)) (by rfl) T.b_len PySem.boot_len (pa_cons (pv 0) pa_nil)) pe_int (nomark _)) (pw_or1 (pt_not (pt_val (pe_callB (all_K (K := K)) (by rfl) T.b_all (by decide +kernel) (pa_cons (pe_lc (own := [("own", 1)]) (g := gName 1) (tt := tYes) rfl sc_is_train.nd (piT_K (K := K) (pv 0)) (blkOk_by (N := n_is_train) (sc := defScope s_is_train) (by decide +kernel)) (fun _ _ _ _ _ => (pg_name (i := 1) sc_is_train.nd rfl (Or.inl rfl))) (fun _ _ _ _ _ => pts_nil) (fun _ _ _ _ _ => (pe_dn D_is_wheel (hr.mono (by omega)) (pa_cons (pv 1) pa_nil)))) pa_nil)))))))) (pss_one (ps_ret pe_bl)) pss_nil) (pss_one (ps_ret (pe_callB (all_K (K := K)) (by rfl) T.b_all (by decide +kernel) (pa_cons (pe_lc (own := [("own", 1)]) (g := gName 1) (tt := tYes) rfl sc_is_train.nd (piT_K (K := K) (pv 0)) (blkOk_by (N := n_is_train) (sc := defScope s_is_train) (by decide +kernel)) (fun _ _ _ _ _ => (pg_name (i := 1) sc_is_train.nd rfl (Or.inl rfl))) (fun _ _ _ _ _ => pts_nil) (fun _ _ _ _ _ => (pe_cmpR op_eq (pe_callB (len_K (K := K)) (by rfl) T.b_len PySem.boot_len (pa_cons (pv 1) pa_nil)) (pe_callB (len_K (K := K)) (by rfl) T.b_len PySem.boot_len (pa_cons (pe_ix (ixT_K (K := K)) (pv 0) pe_int (fun _ _ => rfl)) pa_nil)) (nomark _)))) pa_nil))))), fn_D h ?_⟩)) (fun f fd F => F.binds fun _ _ _ _ _ _ us hl => match us, hl with | [_], _ => rfl)
  intro ds Φ _ hR
  rcases hR with ⟨N, ws, rfl, ⟨hne, hl, hN, hW⟩, h⟩ | ⟨es, rfl, h⟩
  · have hp := List.length_pos_iff.mpr hne
    walk_at "wd"
    show (_ → _) ∧ (_ → _)
    rw [isi_tt]
    refine ⟨fun e => (by cases e), fun _ => ?_⟩
    walk_at "wd"
    refine we_op2 rd_eqI ?_
    walk_at "wd"
    refine ⟨_, _, rfl, rfl, ?_⟩
    walk_at "wd"
    rw [List.length_map]
    refine ⟨fun e => (by have := of_decide_eq_true e; omega), fun _ => ?_⟩
    walk_at "wd"
    refine we_lc (tg_name 1) (WI.t (wi_tup ?_))
    walk_at "wd"
    refine ⟨by rw [List.length_map]; exact hl, fun _ _ => trivial, lc_map (g := fun _ => PyData.bool true) (fun y hy n' Φ2 h2 => ?_) ?_⟩
    · obtain ⟨u, hu, rfl⟩ := List.mem_map.mp hy
      obtain ⟨h3, h4⟩ := hW u hu
      walk_at "wd"
      refine .inl ⟨u, rfl, by omega, ?_⟩
      rw [h3]
      exact h2
    · rw [show ((ws.map dT).map fun _ => PyData.bool true) = (ws.map fun _ => true).map PyData.bool by rw [List.map_map, List.map_map]; rfl]
      walk_at "wd"
      rw [show (ws.map fun _ => true).all id = true by simp]
      refine ⟨fun e => (by cases e), fun _ => ?_⟩
      walk_at "wd"
      refine we_lc (tg_name 1) (WI.t (wi_tup ?_))
      walk_at "wd"
      have h0 : (ws.map dT)[0]? = some (dT (ws.headD [])) := by
        cases ws with
        | nil => exact absurd rfl hne
        | cons a r => rfl
      refine ⟨by rw [List.length_map]; exact hl, fun _ _ => trivial, lc_map (g := fun d => match d with | .tuple es => PyData.bool (decide ((es.length : Int) = ((ws.headD []).length : Int))) | _ => .none) (fun y hy n' Φ2 h2 => ?_) ?_⟩
      · obtain ⟨u, hu, rfl⟩ := List.mem_map.mp hy
        refine we_op2 rd_eqI ?_
        walk_at "wd"
        refine ⟨_, _, _, rfl, rfl, atI_nat (j := 0) h0, ?_⟩
        walk_at "wd"
        refine ⟨_, _, rfl, rfl, ?_⟩
        rw [List.length_map (as := ws.headD [])]
        exact h2
      · rw [all_dT]
        walk_at "wd"
        rw [show (ws.map fun w => decide ((w.length : Int) = ((ws.headD []).length : Int))).all id = true by
          rw [List.all_eq_true]
          intro b hb
          obtain ⟨u, hu, rfl⟩ := List.mem_map.mp hb
          have h1 := (hW u hu).2
          have h2 : (ws.headD []).length = N := by
            cases ws with
            | nil => exact absurd rfl hne
            | cons a r => exact (hW a List.mem_cons_self).2
          exact decide_eq_true (by rw [h1, h2])]
        exact h
  · walk_at "wd"
    show (_ → _) ∧ (_ → _)
    rw [isi_lt]
    refine ⟨fun _ => ?_, fun e => (by cases e)⟩
    refine ⟨fun _ => ?_, fun e => (by cases e)⟩
    walk_at "wd"
    exact h
def R_st (ds : List PyData) (Φ : PyData → Prop) : Prop := ∃ d N ws, ds = [d] ∧ tupD d = .tuple (ws.map dT) ∧ okD 2 d ∧ AllW N ws ∧ Φ (.tuple (ws.map dT))
theorem dn_sure_train (T : Txt K mg) : Dn P w K mg base CX0 "sure_train" 4 ["train"] (spD 1 R_st) := by
  have D_tupled := dn_tupled (P := P) (w := w) (base := base) T 2
  have D_is_train := dn_is_train (P := P) (w := w) (base := base) T
  refine Dn.of T.f_sure_train (fun f fd F => F.ok sc_sure_train (fun vs H Q E h => spD_len h) (fun cdv A outer s H vs Q E hr h => ⟨_, (pss_cons (ps_set (i := 1) sc_sure_train.nd rfl (Or.inl rfl) (pe_dn D_tupled (hr.mono (by omega)) (pa_cons (pv 0) pa_nil))) (pss_cons (ps_if (pt_not (pt_val (pe_dn D_is_train (hr.mono (by omega)) (pa_cons (pv 1) pa_nil)))) (pss_one ps_never) pss_nil) (pss_one (ps_ret (pv 1))))), fn_D h ?_⟩)) (fun f fd F => F.binds fun _ _ _ _ _ _ us hl => match us, hl with | [_], _ => rfl)
  intro ds Φ _ hR
  obtain ⟨d, N, ws, rfl, hd, hok, hA, h⟩ := hR
  walk_at "wd"
  refine ⟨hok, ?_⟩
  rw [hd]
  walk_at "wd"
  refine .inl ⟨N, ws, rfl, hA, ?_⟩
  walk_at "wd"
  refine ⟨fun e => (by cases e), fun _ => ?_⟩
  walk_at "wd"
  exact h
end
end BW

set_option Elab.async false
set_option linter.all false
set_option maxRecDepth 100000
set_option maxHeartbeats 4000000
namespace BW
open PySem PySem.Spec PyProof.Rows L2
local macro_rules | `(tactic| walk_at "wd") => `(tactic| (repeat (first
  | with_reducible refine ws_seq ?_
  | with_reducible refine ws_ret ?_
  | with_reducible refine ws_set ?_
  | with_reducible refine ws_par ?_
  | with_reducible refine ws_next ?_
  | with_reducible refine we_var (by with_unfolding_all rfl) ?_
  | with_reducible refine we_int ?_
  | with_reducible refine we_bl ?_
  | with_reducible refine we_str ?_
  | with_reducible refine we_non ?_
  | with_reducible refine wa_cons ?_
  | with_reducible refine wa_nil ?_
  | with_reducible refine we_tup ?_
  | with_reducible refine we_lst ?_
  | with_reducible refine we_call ?_
  | with_reducible refine we_op2 rd_i0 ?_
  | with_reducible refine we_op2 rd_i ?_
  | with_reducible refine we_op2 rd_ixT ?_
  | with_reducible refine we_op2 rd_ixL ?_
  | with_reducible refine we_op2 rd_cat ?_
  | with_reducible refine we_neg ?_
  | with_reducible refine we_cb cd_len ?_
  | with_reducible refine we_cb cd_list ?_
  | with_reducible refine we_cb cd_tuple ?_
  | with_reducible refine we_cb cd_all ?_
  | with_reducible refine we_cb cd_divmod ?_
  | with_reducible refine we_isi (by decide) ?_
  | with_reducible refine we_isi2 (by decide) (by decide) ?_
  | with_reducible refine we_if ?_
  | with_reducible refine ws_if ?_
  | with_reducible refine wt_b ?_
  | with_reducible refine wt_test ?_
  | with_reducible refine wt_not ?_
  | with_reducible refine wt_or ?_
  | with_reducible refine wt_and ?_
  | with_reducible refine we_notV ?_
  | with_reducible refine we_andV ?_
  | with_reducible refine we_orV ?_
  | with_reducible refine we_back ?_
  | with_reducible refine wo_none ?_
  | with_reducible refine wo_some ?_
  | with_reducible refine ⟨_, _, rfl, rfl, rfl, ?_⟩
  | with_reducible refine ⟨by with_unfolding_all rfl, ?_⟩
  | refine ⟨_, rfl, ?_⟩
  | with_reducible refine ⟨_, _, rfl, ?_⟩
  | refine ⟨_, _, rfl, Or.inr rfl, ?_⟩
  | refine ⟨_, _, rfl, Or.inl rfl, ?_⟩
  | refine ⟨Nat.le_of_ble_eq_true (by with_unfolding_all rfl), ?_⟩
  )))
theorem wi_rngN {m : Option Addr} {l : List Sl} {n : Nat} {ta : TA} {P : List PyData → Nat → Prop} (h : WA m ta l n fun ds n' => ∃ N : Nat, ds = [.int (N : Int)] ∧ N ≤ 1000 ∧ P ((List.range N).map fun (i : Nat) => PyData.int (0 + (i : Int))) n') : WI m (iRng1 ta) l n P :=
  wi_rng1 fun B σ G H Q hs hw q => h B σ G H Q hs hw fun vs ds n' G' H' ⟨N, e, hN, h'⟩ t w x => q vs ds n' G' H' ⟨(N : Int), e, ⟨by omega, by omega⟩, by rw [Int.toNat_natCast]; exact h'⟩ t w x
theorem eqv_int (i j : Int) : PyData.eqv (.int i) (.int j) = decide (i = j) := by
  show (i == j) = _
  rw [Bool.eq_iff_iff]
  simp
theorem eqvAll_ints : ∀ w u : List Int, PyData.eqvAll (w.map PyData.int) (u.map PyData.int) = decide (w = u)
  | [], [] => rfl
  | [], _ :: _ => rfl
  | _ :: _, [] => rfl
  | a :: w, b :: u => by
    show (PyData.eqv (.int a) (.int b) && PyData.eqvAll (w.map PyData.int) (u.map PyData.int)) = _
    rw [eqv_int, eqvAll_ints w u, Bool.eq_iff_iff]
    simp
theorem eqv_dT (w u : List Int) : PyData.eqv (dT w) (dT u) = decide (w = u) := by
  show PyData.eqvAll (w.map PyData.int) (u.map PyData.int) = _
  exact eqvAll_ints w u
theorem lay_ints : ∀ w : List Int, PyData.canLayAll0 (w.map PyData.int) = true
  | [] => rfl
  | a :: w => by
    show (PyData.canLay0 (.int a) && PyData.canLayAll0 (w.map PyData.int)) = true
    rw [lay_ints w]
    rfl
theorem dep_ints : ∀ w : List Int, PyData.depthAll (w.map PyData.int) = 0
  | [] => rfl
  | a :: w => by
    show max (PyData.depth (.int a)) (PyData.depthAll (w.map PyData.int)) = 0
    rw [dep_ints w]
    rfl
theorem shaped_dT (w : List Int) : SeqAt.shaped (dT w) = true := by
  show (PyData.canLay0 (dT w) && decide (PyData.depth (dT w) ≤ 64)) = true
  have h1 : PyData.canLay0 (dT w) = true := lay_ints w
  have h2 : PyData.depth (dT w) ≤ 64 := by
    show PyData.depthAll (w.map PyData.int) + 1 ≤ 64
    rw [dep_ints]
    decide
  rw [h1, decide_eq_true h2]
  rfl
section
variable {P : Program} {w : World} {K : PySem.W.Frag} {mg : Str → Option Value} {base : Heap}
def R_leads (ds : List PyData) (Φ : PyData → Prop) : Prop := ∃ d w z, ds = [d, .int z] ∧ IsD d w ∧ isWb w = true ∧ w.length ≤ 1000 ∧ Φ (.int (led w z))
theorem isWb_nn {w : List Int} (h : isWb w = true) : w ≠ [] := ((isWb_iff w).mp h).ne
theorem dn_leads (T : Txt K mg) : Dn P w K mg base CX0 "leads" 4 ["wheel", "number"] (spD 2 R_leads) := by
  have D_led_in := dn_led_in (P := P) (w := w) (base := base) T
  have D_sure_wheel := dn_sure_wheel (P := P) (w := w) (base := base) T
  refine Dn.of T.f_leads (fun f fd F => F.ok sc_leads (fun vs H Q E h => spD_len h) (fun cdv A outer s H vs Q E hr h => ⟨_, (pss_one (ps_ret (pe_dn D_led_in (hr.mono (by omega)) (pa_cons (pe_dn D_sure_wheel (hr.mono (by omega)) (pa_cons (pv 0) pa_nil)) (pa_cons (pv 1) pa_nil))))), fn_D h ?_⟩)) (fun f fd F => F.binds fun _ _ _ _ _ _ us hl => match us, hl with | [_, _], _ => rfl)
  intro ds Φ _ hR
  obtain ⟨d, w, z, rfl, hd, hw, hl, h⟩ := hR
  walk_at "wd"
  refine ⟨d, w, rfl, hd, hw, hl, ?_⟩
  walk_at "wd"
  exact ⟨w, z, rfl, isWb_nn hw, hl, h⟩
def R_shift (ds : List PyData) (Φ : PyData → Prop) : Prop := ∃ (N : Nat) (m : Int), ds = [.int N, .int m] ∧ N ≤ 1000 ∧ Φ (dT (shf N m))
theorem shf_data (N : Nat) (m : Int) : ((List.range N).map fun (i : Nat) => PyData.int (0 + (i : Int))).map (fun d => match d with | .int i => PyData.int (m + i) | _ => .none) = (shf N m).map PyData.int := by
  unfold shf
  rw [List.map_map, List.map_map]
  apply List.map_congr_left
  intro i _
  show PyData.int (m + (0 + (i : Int))) = PyData.int (m + i)
  rw [Int.zero_add]
theorem dn_shift (T : Txt K mg) : Dn P w K mg base CX0 "shift" 1 ["places", "steps"] (spD 2 R_shift) := by
  refine Dn.of T.f_shift (fun f fd F => F.ok sc_shift (fun vs H Q E h => spD_len h) (fun cdv A outer s H vs Q E hr h => ⟨_, (pss_one (ps_ret (pe_callTy (tuple_K (K := K)) (by rfl) T.b_tuple (by decide +kernel) (pa_cons (pe_lc (own := [("place", 2)]) (g := gName 2) (tt := tYes) rfl sc_shift.nd (pi_range1 (by rfl) T.b_range (pa_cons (pv 0) pa_nil)) (blkOk_by (N := n_shift) (sc := defScope s_shift) (by decide +kernel)) (fun _ _ _ _ _ => (pg_name (i := 2) sc_shift.nd rfl (Or.inl rfl))) (fun _ _ _ _ _ => pts_nil) (fun _ _ _ _ _ => (pe_op op_add (pv 1) (pv 2)))) pa_nil)))), fn_D h ?_⟩)) (fun f fd F => F.binds fun _ _ _ _ _ _ us hl => match us, hl with | [_, _], _ => rfl)
  intro ds Φ _ hR
  obtain ⟨N, m, rfl, hN, h⟩ := hR
  walk_at "wd"
  refine we_lc (tg_name 2) (WI.t (wi_rngN ?_))
  walk_at "wd"
  refine ⟨hN, ?_⟩
  refine ⟨by simpa using hN, fun _ _ => trivial, lc_map (g := fun d => match d with | .int i => PyData.int (m + i) | _ => .none) (fun y hy n' Φ2 h2 => ?_) ?_⟩
  · obtain ⟨i, _, rfl⟩ := List.mem_map.mp hy
    walk_at "wd"
    exact h2
  · rw [shf_data]
    walk_at "wd"
    exact h
def R_isshift (ds : List PyData) (Φ : PyData → Prop) : Prop := ∃ d w, ds = [d] ∧ IsD d w ∧ isWb w = true ∧ w.length ≤ 1000 ∧ Φ (.bool (decide (w = shf w.length (w.getD 0 0))))
theorem dn_is_shift (T : Txt K mg) : Dn P w K mg base CX0 "is_shift" 4 ["wheel"] (spD 1 R_isshift) := by
  have D_shift := dn_shift (P := P) (w := w) (base := base) T
  have D_sure_wheel := dn_sure_wheel (P := P) (w := w) (base := base) T
  refine Dn.of T.f_is_shift (fun f fd F => F.ok sc_is_shift (fun vs H Q E h => spD_len h) (fun cdv A outer s H vs Q E hr h => ⟨_, (pss_cons (ps_set (i := 1) sc_is_shift.nd rfl (Or.inl rfl) (pe_dn D_sure_wheel (hr.mono (by omega)) (pa_cons (pv 0) pa_nil))) (pss_one (ps_ret (pe_cmpR (eqD_K (K := K) hr.units) (pv 1) (pe_dn D_shift (hr.mono (by omega)) (pa_cons (pe_callB (len_K (K := K)) (by rfl) T.b_len PySem.boot_len (pa_cons (pv 1) pa_nil)) (pa_cons (pe_ix (ixT_K (K := K)) (pv 1) pe_int (fun _ _ => rfl)) pa_nil))) (nomark _))))), fn_D h ?_⟩)) (fun f fd F => F.binds fun _ _ _ _ _ _ us hl => match us, hl with | [_], _ => rfl)
  intro ds Φ _ hR
  obtain ⟨d, w, rfl, hd, hw, hl, h⟩ := hR
  have hp := List.length_pos_iff.mpr (isWb_nn hw)
  walk_at "wd"
  refine ⟨d, w, rfl, hd, hw, hl, ?_⟩
  walk_at "wd"
  refine we_op2 rd_eqD ?_
  walk_at "wd"
  rw [List.length_map]
  walk_at "wd"
  refine ⟨_, _, _, rfl, rfl, at_ints (z := 0) (by decide) (by omega), ?_⟩
  walk_at "wd"
  refine ⟨w.length, _, rfl, hl, shaped_dT _, shaped_dT _, ?_⟩
  rw [eqv_dT]
  exact h
def R_behind (ds : List PyData) (Φ : PyData → Prop) : Prop := ∃ w u, ds = [dT w, dT u] ∧ w ≠ [] ∧ w.length ≤ 1000 ∧ u.length ≤ 1000 ∧ Φ (dT (beh w u))
theorem beh_data (w u : List Int) : (u.map PyData.int).map (fun d => match d with | .int i => PyData.int (led w i) | _ => .none) = (beh w u).map PyData.int := by
  unfold beh
  rw [List.map_map, List.map_map]
  rfl
theorem dn_behind (T : Txt K mg) : Dn P w K mg base CX0 "behind" 2 ["wheel", "other"] (spD 2 R_behind) := by
  have D_led_in := dn_led_in (P := P) (w := w) (base := base) T
  refine Dn.of T.f_behind (fun f fd F => F.ok sc_behind (fun vs H Q E h => spD_len h) (fun cdv A outer s H vs Q E hr h => ⟨_, (pss_one (ps_ret (pe_callTy (tuple_K (K := K)) (by rfl) T.b_tuple (by decide +kernel) (pa_cons (pe_lc (own := [("number", 2)]) (g := gName 2) (tt := tYes) rfl sc_behind.nd (piT_K (K := K) (pv 1)) (blkOk_by (N := n_behind) (sc := defScope s_behind) (by decide +kernel)) (fun _ _ _ _ _ => (pg_name (i := 2) sc_behind.nd rfl (Or.inl rfl))) (fun _ _ _ _ _ => pts_nil) (fun _ _ _ _ _ => (pe_dn D_led_in (hr.mono (by omega)) (pa_cons (pv 0) (pa_cons (pv 2) pa_nil))))) pa_nil)))), fn_D h ?_⟩)) (fun f fd F => F.binds fun _ _ _ _ _ _ us hl => match us, hl with | [_, _], _ => rfl)
  intro ds Φ _ hR
  obtain ⟨w, u, rfl, hw, hl, hu, h⟩ := hR
  walk_at "wd"
  refine we_lc (tg_name 2) (WI.t (wi_tup ?_))
  walk_at "wd"
  refine ⟨by rw [List.length_map]; exact hu, fun _ _ => trivial, lc_map (g := fun d => match d with | .int i => PyData.int (led w i) | _ => .none) (fun y hy n' Φ2 h2 => ?_) ?_⟩
  · obtain ⟨i, _, rfl⟩ := List.mem_map.mp hy
    walk_at "wd"
    exact ⟨w, i, rfl, hw, hl, h2⟩
  · rw [beh_data]
    walk_at "wd"
    exact h
def R_put (ds : List PyData) (Φ : PyData → Prop) : Prop := ∃ N ws, ds = [.tuple (ws.map dT)] ∧ AllW N ws ∧ Φ (dT (putIn ws))
theorem back_dL {α β : Type} (f : α → β) (ws : List α) (o : Option Int) : backV (ws.map f) o = (backV ws o).map f := by
  unfold backV
  rw [List.length_map, ← List.map_take, List.map_reverse]
theorem back_all {α : Type} (ws : List α) : backV ws none = ws.reverse := by
  show (ws.take ws.length).reverse = _
  rw [List.take_length]
theorem back_two {α : Type} (ws : List α) : backV ws (some (-2)) = ws.dropLast.reverse := by
  unfold backV
  rw [List.dropLast_eq_take]
  show (ws.take (if (-2 : Int) < 0 then (-2 + (ws.length : Int) + 1).toNat else min ((-2 : Int).toNat + 1) ws.length)).reverse = _
  rw [if_pos (by decide)]
  congr 2
  omega
theorem at_lastD {α : Type} {l : List α} {x : α} (h : l.getLast? = some x) : L2.atI l (-1) = some x := by
  obtain ⟨ys, rfl⟩ := List.getLast?_eq_some_iff.mp h
  exact atI_last ys x
theorem dn_put_in (T : Txt K mg) : Dn P w K mg base CX0 "put_in" 3 ["train"] (spD 1 R_put) := by
  have D_behind := dn_behind (P := P) (w := w) (base := base) T
  refine Dn.of T.f_put_in (fun f fd F => F.ok sc_put_in (fun vs H Q E h => spD_len h) (fun cdv A outer s H vs Q E hr h => ⟨_, (pss_cons (ps_set (i := 1) sc_put_in.nd rfl (Or.inl rfl) (pe_ix (ixT_K (K := K)) (pv 0) (pe_un un_neg pe_int) (fun _ _ => rfl))) (pss_cons (ps_for PassesOwn.never rfl (piT_K (K := K) (back_K (K := K) (pv 0) (po_some (pe_un un_neg pe_int)))) (pg_name (i := 2) sc_put_in.nd rfl (Or.inl rfl)) (pss_one (ps_set (i := 1) sc_put_in.nd rfl (Or.inl rfl) (pe_dn D_behind (hr.mono (by omega)) (pa_cons (pv 2) (pa_cons (pv 1) pa_nil)))))) (pss_one (ps_ret (pv 1))))), fn_D h ?_⟩)) (fun f fd F => F.binds fun _ _ _ _ _ _ us hl => match us, hl with | [_], _ => rfl)
  intro ds Φ _ hR
  obtain ⟨N, ws, rfl, ⟨hne, hlen, hN, hW⟩, h⟩ := hR
  obtain ⟨r, x, rfl⟩ : ∃ r x, ws = r ++ [x] := ⟨ws.dropLast, ws.getLast hne, (List.dropLast_concat_getLast hne).symm⟩
  walk_at "wd"
  refine ⟨_, _, dT x, rfl, rfl, at_lastD (by rw [List.map_append]; exact List.getLast?_concat), ?_⟩
  walk_at "wd"
  refine ws_for (tg_name 2) (wi_tup ?_)
  walk_at "wd"
  rw [back_dL, back_two, List.dropLast_concat]
  refine ⟨fun _ _ => trivial, ?_⟩
  have hr : ∀ u ∈ r.reverse, u ≠ [] ∧ u.length = N := fun u hu => by
    have := hW u (by simp at hu ⊢; exact .inl hu)
    exact ⟨isWb_nn this.1, this.2⟩
  have hx := hW x (by simp)
  have main : ∀ (q : List (List Int)) (v : List Int) (last : Sl), (∀ u ∈ q, u ≠ [] ∧ u.length = N) → v.length = N → Φ (dT (q.foldl (fun found own => beh own found) v)) →
      Fr none (tAsg (tCall (spD 2 R_behind) [] E0 (tCons (tVar 2) (tCons (tVar 1) tNil))) (gName 1)) (fun l d => l.set 2 (Sl.d d)) (fun l' n' => WS none (tRet (tVar 1)) l' n' (fun _ _ => False) fun d _ => Φ d) (fun d _ => Φ d) (q.map dT) [.d (.tuple ((r ++ [x]).map dT)), .d (dT v), last] 0 := by
    intro q
    induction q with
    | nil =>
      intro v last _ _ h
      show WS none _ _ _ _ _
      walk_at "wd"
      exact h
    | cons a q ih =>
      intro v last hq hv h
      have ha := hq a (by simp)
      show WS none _ _ _ _ _
      walk_at "wd"
      refine ⟨a, v, rfl, ha.1, by omega, by omega, ?_⟩
      exact ih (beh a v) _ (fun u hu => hq u (by simp [hu])) (by rw [beh_length]; exact hv) h
  refine main r.reverse x .un hr hx.2 ?_
  rw [putIn_fold, List.reverse_reverse]
  exact h
def R_together (ds : List PyData) (Φ : PyData → Prop) : Prop := ∃ d N ws, ds = [d] ∧ tupD d = .tuple (ws.map dT) ∧ okD 2 d ∧ AllW N ws ∧ Φ (dT (putIn ws))
theorem dn_put_together (T : Txt K mg) : Dn P w K mg base CX0 "put_together" 5 ["train"] (spD 1 R_together) := by
  have D_put_in := dn_put_in (P := P) (w := w) (base := base) T
  have D_sure_train := dn_sure_train (P := P) (w := w) (base := base) T
  refine Dn.of T.f_put_together (fun f fd F => F.ok sc_put_together (fun vs H Q E h => spD_len h) (fun cdv A outer s H vs Q E hr h => ⟨_, (pss_one (ps_ret (pe_dn D_put_in (hr.mono (by omega)) (pa_cons (pe_dn D_sure_train (hr.mono (by omega)) (pa_cons (pv 0) pa_nil)) pa_nil)))), fn_D h ?_⟩)) (fun f fd F => F.binds fun _ _ _ _ _ _ us hl => match us, hl with | [_], _ => rfl)
  intro ds Φ _ hR
  obtain ⟨d, N, ws, rfl, hd, hok, hA, h⟩ := hR
  walk_at "wd"
  refine ⟨d, N, ws, rfl, hd, hok, hA, ?_⟩
  walk_at "wd"
  exact ⟨N, ws, rfl, hA, h⟩
def R_power (ds : List PyData) (Φ : PyData → Prop) : Prop := ∃ (d : PyData) (w : List Int) (k : Nat), ds = [d, .int k] ∧ IsD d w ∧ isWb w = true ∧ w.length ≤ 1000 ∧ Φ (dT (pw w k))
theorem dn_power (T : Txt K mg) : Dn P w K mg base CX0 "power" 4 ["wheel", "beats"] (spD 2 R_power) := by
  have D_behind := dn_behind (P := P) (w := w) (base := base) T
  have D_shift := dn_shift (P := P) (w := w) (base := base) T
  have D_sure_wheel := dn_sure_wheel (P := P) (w := w) (base := base) T
  refine Dn.of T.f_power (fun f fd F => F.ok sc_power (fun vs H Q E h => spD_len h) (fun cdv A outer s H vs Q E hr h => ⟨_, (pss_cons (ps_set (i := 2) sc_power.nd rfl (Or.inl rfl) (pe_dn D_sure_wheel (hr.mono (by omega)) (pa_cons (pv 0) pa_nil))) (pss_cons (ps_par (i := 3) (j := 4) rfl sc_power.nd rfl rfl (by decide) rfl rfl (pa_cons (pe_dn D_shift (hr.mono (by omega)) (pa_cons (pe_callB (len_K (K := K)) (by rfl) T.b_len PySem.boot_len (pa_cons (pv 2) pa_nil)) (pa_cons pe_int pa_nil))) (pa_cons (pv 1) pa_nil)) (by rfl)) (pss_cons (ps_while PassesOwn.never (pt_cmpR op_gt (pv 4) pe_int (nomark _)) (pss_cons (ps_if (pt_cmpR op_eq (pe_op op_mod (pv 4) pe_int) pe_int (nomark _)) (pss_one (ps_set (i := 3) sc_power.nd rfl (Or.inl rfl) (pe_dn D_behind (hr.mono (by omega)) (pa_cons (pv 2) (pa_cons (pv 3) pa_nil))))) pss_nil) (pss_one (ps_par (i := 2) (j := 4) rfl sc_power.nd rfl rfl (by decide) rfl rfl (pa_cons (pe_dn D_behind (hr.mono (by omega)) (pa_cons (pv 2) (pa_cons (pv 2) pa_nil))) (pa_cons (pe_op op_fdiv (pv 4) pe_int) pa_nil)) (by rfl))))) (pss_one (ps_ret (pv 3)))))), fn_D h ?_⟩)) (fun f fd F => F.binds fun _ _ _ _ _ _ us hl => match us, hl with | [_, _], _ => rfl)
  intro ds Φ _ hR
  obtain ⟨d, w, k, rfl, hd, hw, hl, h⟩ := hR
  have hne := isWb_nn hw
  walk_at "wd"
  refine ⟨d, w, rfl, hd, hw, hl, ?_⟩
  walk_at "wd"
  rw [List.length_map]
  walk_at "wd"
  refine ⟨w.length, 0, rfl, hl, ?_⟩
  walk_at "wd"
  refine ws_while (I := fun left l n => ∃ a b : Nat, l = [.d d, .d (.int k), .d (dT (pw w b)), .d (dT (pw w a)), .d (.int (left : Nat))] ∧ a + b * left = k ∧ n = 0) (k0 := k) ⟨0, 1, by rw [pw_zero, pw_one] <;> rfl, by omega, rfl⟩ ?_
  rintro left l n ⟨a, b, rfl, hab, rfl⟩
  have hd2 := Nat.mod_add_div left 2
  walk_at "wd"
  refine ⟨fun e => ?_, fun e => ?_⟩
  · have hpos := of_decide_eq_true e
    have mul2 : b * left = b * (left % 2) + (b + b) * (left / 2) := by
      have e1 : b * left = b * (left % 2 + 2 * (left / 2)) := by rw [hd2]
      rw [e1, Nat.mul_add, ← Nat.mul_assoc, Nat.mul_two]
    walk_at "wd"
    refine we_op2 rd_eqI ?_
    walk_at "wd"
    refine ⟨_, _, rfl, rfl, by decide, rfl, ?_⟩
    walk_at "wd"
    refine ⟨_, _, rfl, rfl, ?_⟩
    walk_at "wd"
    refine ⟨fun e2 => ?_, fun e2 => ?_⟩
    · have hodd := of_decide_eq_true e2
      have h1 : left % 2 = 1 := by omega
      rw [h1, Nat.mul_one] at mul2
      walk_at "wd"
      refine ⟨_, _, rfl, pw_ne hne b, by rw [pw_length]; exact hl, by rw [pw_length]; exact hl, ?_⟩
      rw [beh_pw hne]
      walk_at "wd"
      refine ⟨_, _, rfl, pw_ne hne b, by rw [pw_length]; exact hl, by rw [pw_length]; exact hl, ?_⟩
      rw [beh_pw hne]
      walk_at "wd"
      refine ⟨_, _, rfl, rfl, ⟨by decide, by decide⟩, rfl, ?_⟩
      walk_at "wd"
      exact ⟨left / 2, by omega, b + a, b + b, rfl, by omega, rfl⟩
    · have hev := of_decide_eq_false e2
      have h1 : left % 2 = 0 := by omega
      rw [h1, Nat.mul_zero] at mul2
      walk_at "wd"
      refine ⟨_, _, rfl, pw_ne hne b, by rw [pw_length]; exact hl, by rw [pw_length]; exact hl, ?_⟩
      rw [beh_pw hne]
      walk_at "wd"
      refine ⟨_, _, rfl, rfl, ⟨by decide, by decide⟩, rfl, ?_⟩
      walk_at "wd"
      exact ⟨left / 2, by omega, a, b + b, rfl, by omega, rfl⟩
  · have hz := of_decide_eq_false e
    have e0 : left = 0 := by omega
    subst e0
    rw [Nat.mul_zero, Nat.add_zero] at hab
    subst hab
    walk_at "wd"
    exact h
end
end BW

set_option Elab.async false
set_option linter.all false
set_option maxRecDepth 100000
set_option maxHeartbeats 4000000
namespace BW
open PySem PySem.Spec PyProof.Rows L2
local macro_rules | `(tactic| walk_at "wd") => `(tactic| (repeat (first
  | with_reducible refine ws_seq ?_
  | with_reducible refine ws_ret ?_
  | with_reducible refine ws_set ?_
  | with_reducible refine ws_par ?_
  | with_reducible refine ws_next ?_
  | with_reducible refine we_var (by with_unfolding_all rfl) ?_
  | with_reducible refine we_int ?_
  | with_reducible refine we_bl ?_
  | with_reducible refine we_str ?_
  | with_reducible refine we_non ?_
  | with_reducible refine wa_cons ?_
  | with_reducible refine wa_nil ?_
  | with_reducible refine we_tup ?_
  | with_reducible refine we_lst ?_
  | with_reducible refine we_call ?_
  | with_reducible refine we_op2 rd_i0 ?_
  | with_reducible refine we_op2 rd_i ?_
  | with_reducible refine we_op2 rd_ixT ?_
  | with_reducible refine we_op2 rd_ixL ?_
  | with_reducible refine we_op2 rd_cat ?_
  | with_reducible refine we_neg ?_
  | with_reducible refine we_cb cd_len ?_
  | with_reducible refine we_cb cd_list ?_
  | with_reducible refine we_cb cd_tuple ?_
  | with_reducible refine we_cb cd_all ?_
  | with_reducible refine we_cb cd_divmod ?_
  | with_reducible refine we_isi (by decide) ?_
  | with_reducible refine we_isi2 (by decide) (by decide) ?_
  | with_reducible refine we_if ?_
  | with_reducible refine ws_if ?_
  | with_reducible refine wt_b ?_
  | with_reducible refine wt_test ?_
  | with_reducible refine wt_not ?_
  | with_reducible refine wt_or ?_
  | with_reducible refine wt_and ?_
  | with_reducible refine we_notV ?_
  | with_reducible refine we_andV ?_
  | with_reducible refine we_orV ?_
  | with_reducible refine we_back ?_
  | with_reducible refine wo_none ?_
  | with_reducible refine wo_some ?_
  | with_reducible refine ⟨_, _, rfl, rfl, rfl, ?_⟩
  | with_reducible refine ⟨by with_unfolding_all rfl, ?_⟩
  | refine ⟨_, rfl, ?_⟩
  | with_reducible refine ⟨_, _, rfl, ?_⟩
  | refine ⟨_, _, rfl, Or.inr rfl, ?_⟩
  | refine ⟨_, _, rfl, Or.inl rfl, ?_⟩
  | refine ⟨Nat.le_of_ble_eq_true (by with_unfolding_all rfl), ?_⟩
  )))
theorem seq_asg {te : TE} {i : Nat} {u : TS} {D : Ends} {σ : Sg} {H : Hp} (h : te σ H fun v H1 => u D (σ.set i (some v)) H1) : tSeq (tAsg te (gName i)) u D σ H := h
theorem seq_if {tt : TT} {t v u : TS} {D : Ends} {σ : Sg} {H : Hp} (h : tt σ H fun b H1 => if b = true then t { D with nx := u D } σ H1 else v { D with nx := u D } σ H1) : tSeq (tIfS tt t v) u D σ H := h
/-- what the top leaves of the class CanNot, at C -/
structure TxtC (K : PySem.W.Frag) (mg : Str → Option Value) (C : Addr) : Prop where
  gC : mg "CanNot" = some (.ref C)
  xC : PySem.W.excIn K C [.type "ValueError", .type "Exception", .type "BaseException", .type "object"] "ValueError.__new__" = true
  kC : PySem.W.keepIn K (.ref C) = true
  bC : PySem.W.subIn K (.ref C) (.type "BaseException") = some true
  tC : PySem.W.typeIn K (.ref C) = some (.type "type")
  iC : PySem.W.isClsIn K C = true
  sC : PySem.W.subIn K (.ref C) (.ref C) = some true
  ec : ExcC K C
  isC : PySem.W.kitOne K (.ref C) (.type "ValueError") = some true
/-- an error of the class at S is what «except S» names -/
theorem exm_self {K : PySem.W.Frag} {S : Addr} (h1 : PySem.W.subIn K (.ref S) (.type "BaseException") = some true) (h2 : PySem.W.isClsIn K S = true) (h3 : PySem.W.typeIn K (.ref S) = some (.type "type")) (h4 : PySem.W.subIn K (.ref S) (.ref S) = some true) :
    PySem.W.exmOne K (.ref S) (.ref S) = some true := by
  have e1 : (PySem.W.subIn K (.ref S) (.type "BaseException") == some true) = true := by rw [h1] <;> rfl
  have e2 : ((PySem.W.clsIn K S).isSome && PySem.W.typeIn K (.ref S) == some (.type "type")) = true := by
    have h2' : (PySem.W.clsIn K S).isSome = true := h2
    rw [h2', h3] <;> rfl
  show (if (PySem.W.subIn K (.ref S) (.type "BaseException") == some true) = true then (if ((PySem.W.clsIn K S).isSome && PySem.W.typeIn K (.ref S) == some (.type "type")) = true then PySem.W.subIn K (.ref S) (.ref S) else none) else none) = some true
  rw [if_pos e1, if_pos e2]
  exact h4
section
variable {P : Program} {w : World} {K : PySem.W.Frag} {mg : Str → Option Value} {base : Heap} {C : Addr}
abbrev isSh (w : List Int) : Bool := decide (w = shf w.length (w.getD 0 0))
/-- steps_of: the steps of a SHIFT, or CanNot() -/
def spSteps (C : Addr) : Sp := fun vs H Q E => ∃ (G : Hp) (d : PyData) (w : List Int), Same G H ∧ DtAll G [d] vs ∧ IsD d w ∧ isWb w = true ∧ w.length ≤ 1000 ∧
  (isSh w = true → ∀ G' H', Tr none G H G' H' → Same G' H' → Q (.int (w.getD 0 0)) H') ∧ (isSh w = false → ∀ G' H', Tr none G H G' H' → Same G' H' → E (.ref C) none H')
theorem dn_steps_of (T : Txt K mg) (TC : TxtC K mg C) : Dn P w K mg base (L2.CX P w) "steps_of" 5 ["wheel"] (spSteps C) := by
  have D_is_shift := dn_is_shift (P := P) (w := w) (base := base) T
  have D_sure_wheel := dn_sure_wheel (P := P) (w := w) (base := base) T
  refine Dn.of T.f_steps_of (fun f fd F => F.okX sc_steps_of (fun vs H Q E h => ?_) (fun cdv A outer s H vs Q E hr h => ⟨_, (pss_cons (ps_set (i := 1) sc_steps_of.nd rfl (Or.inl rfl) (pe_dn D_sure_wheel (hr.mono (by omega)) (pa_cons (pv 0) pa_nil))) (pss_cons (ps_if (pt_not (pt_val (pe_dn D_is_shift (hr.mono (by omega)) (pa_cons (pv 1) pa_nil)))) (pss_one (ps_raise rfl (takes_of rfl rfl rfl rfl) (pmk_own0 PySem.F.excBase_ValueError TC.xC TC.gC TC.kC (raises_own TC.bC TC.tC) (by exact rfl)))) pss_nil) (pss_one (ps_ret (pe_ix (ixT_K (K := K)) (pv 1) pe_int (fun _ _ => rfl)))))), ?_⟩)) (fun f fd F => F.binds fun _ _ _ _ _ _ us hl => match us, hl with | [_], _ => rfl)
  · obtain ⟨G, d, w, _, x, _⟩ := h
    exact x.length
  obtain ⟨G, d, w, s0, x, hd, hw, hl, hQ, hE⟩ := h
  have hp := List.length_pos_iff.mpr (isWb_nn hw)
  have st0 : StD none H G H (L2.start n_steps_of vs) [.d d, .un] := st_start x
  have wk0 : Wk none 0 G H := ⟨s0, fun _ e => nomatch e⟩
  have h1 : WE none (tCall (spD 1 R_sw) [] E0 (tCons (tVar 0) tNil)) [.d d, .un] 0 (fun e _ => e = dT w) := by
    walk_at "wd"
    exact ⟨d, w, rfl, hd, hw, hl, rfl⟩
  refine seq_asg (h1 H _ G H _ st0 wk0 fun v d1 n1 G1 H1 e1 t1 w1 x1 => ?_)
  subst e1
  have st1 : StD none H G1 H1 ((L2.start n_steps_of vs).set 1 (some v)) [.d d, .d (dT w)] := (st0.step t1).setD x1
  have h2 : WT none (tNot (tB (tCall (spD 1 R_isshift) [] E0 (tCons (tVar 1) tNil)))) [.d d, .d (dT w)] n1 (fun b _ => b = !isSh w) := by
    walk_at "wd"
    exact ⟨hw, hl, _, rfl, rfl⟩
  refine seq_if (h2 H _ G1 H1 _ st1 w1 fun b n2 G2 H2 e2 t2 w2 => ?_)
  subst e2
  cases hsh : isSh w with
  | false =>
    refine iteT ?_
    exact hE hsh G2 H2 (t1.trans t2) w2.s
  | true =>
    refine iteF ?_
    have h3 : WE none (tOp (rIxT K) (tVar 1) (tC (.int 0))) [.d d, .d (dT w)] n2 (fun e _ => e = .int (w.getD 0 0)) := by
      walk_at "wd"
      exact ⟨_, _, _, rfl, rfl, at_ints (z := 0) (by decide) (by omega), rfl⟩
    refine h3 H _ G2 H2 _ (st1.step t2) w2 fun v3 d3 n3 G3 H3 e3 t3 w3 x3 => ?_
    subst e3
    rw [dt_int.mp x3]
    exact hQ hsh G3 H3 ((t1.trans t2).trans t3) w3.s
/-- what the law hears of steps_of -/
def heardD (w : List Int) : PyData := if isSh w = true then .int (w.getD 0 0) else .list [.str "cannot", .bool true]
def R_heard (ds : List PyData) (Φ : PyData → Prop) : Prop := ∃ d w, ds = [d] ∧ IsD d w ∧ isWb w = true ∧ w.length ≤ 1000 ∧ Φ (heardD w)
theorem call_isEX {X : Cx} {a C : Addr} {cls : Value} {d : Option Addr} {oe : Obj} {pn : List (Addr × Obj)} (EC : ExcC X.K C) (hz : Zc cls d oe) (hf : ∃ vs, oe.data = .fields vs) :
    CallR (X.suite a ((a, oe) :: pn)) (.builtin "isinstance") (fun xs H Q => cls = .ref C ∧ d = none ∧ rIsE X.K C a xs H Q) := by
  intro pins s σ H xs us Q I r h
  obtain ⟨rfl, rfl, h⟩ := h
  exact call_isE EC hz hf pins s σ H xs us Q I r h
theorem dn_heard (T : Txt K mg) (TC : TxtC K mg C) : Dn P w K mg base CX0 "_law_heard" 6 ["_law_disk_here"] (spD 1 R_heard) := by
  obtain ⟨fS, fdS, GS, gS, kS, bS⟩ := (dn_steps_of (P := P) (w := w) (base := base) T TC).ex
  refine Dn.of T.f__law_heard (fun f fd F => F.ok sc__law_heard (fun vs H Q E h => spD_len h) (fun cdv A outer s H vs Q E hr h => ⟨_,
    pss_one (ps_try_as (i := 1) (tb := fun W => tRet (tCallS (spSteps C) (L2.WE W) (tCons (tVar 0) tNil))) (ts := fun a cls d => tRet (tLst (tCons (tC (.str "cannot")) (tCons (tCB (fun xs H Q => cls = .ref C ∧ d = none ∧ rIsE K C a xs H Q) (tCons (tVar 1) (tCons (tC (.ty "ValueError")) tNil))) tNil)))) (Wout := fun _ _ _ _ => False) rfl rfl sc__law_heard.nd rfl rfl ⟨rfl, by decide, .inl TC.gC⟩ takes0
      (fun W pn xe tk _ => pss_one (ps_ret (by exact (pe_callS GS (hr.mono (by omega)) rfl gS kS bS (fun σ => passAt tk σ) (by exact (pa_cons (pv 0) pa_nil))))))
      (fun a oe cls d pn hz hf => pss_one (ps_ret (by exact (pe_lst (pa_cons pe_str (pa_cons (pe_callB (call_isEX TC.ec hz hf) (by rfl) T.b_isinstance (by decide +kernel) (pa_cons (pv 1) (pa_cons (pe_bltn (v := .ty "ValueError") (by rfl) T.b_ValueError (by decide +kernel) rfl) pa_nil))) pa_nil))))))), ?_⟩)) (fun f fd F => F.binds fun _ _ _ _ _ _ us hl => match us, hl with | [_], _ => rfl)
  obtain ⟨G, ds, Φ, _, s0, x, ⟨d, w, rfl, hd, hw, hl, hΦ⟩, q⟩ := h
  have st0 : StD none H G H (L2.start n__law_heard vs) [.d d, .un] := st_start x
  obtain ⟨v, hv, xv⟩ := st0.get (i := 0) rfl
  refine ⟨v, hv, G, d, w, s0, .one xv, hd, hw, hl, fun hsh G' H' t s' => ?_, fun hsh G' H' t s' => ?_⟩
  · refine q _ (.int (w.getD 0 0)) G' H' ?_ t s' (dt_int.mpr rfl)
    unfold heardD at hΦ
    rw [if_pos hsh] at hΦ
    exact hΦ
  · refine ⟨true, exm_self TC.bC TC.iC TC.tC TC.sC, fun _ a ha => ?_, fun e => nomatch e⟩
    have hσ : ((L2.start n__law_heard vs).set 1 (some (V.ref a)))[1]? = some (some (V.ref a)) := by
      have hl2 : (L2.start n__law_heard vs).length = 2 := st0.1
      exact List.getElem?_set_self (by rw [hl2]; decide)
    refine ⟨.ref a, hσ, rfl, rfl, .ty "ValueError", .type "ValueError", true, rfl, fun u e => e, TC.isC, by show 2 ≤ sizeLine; decide, fun p hp => ?_⟩
    unfold heardD at hΦ
    rw [if_neg (by rw [hsh]; decide)] at hΦ
    exact q _ _ (upd G' p _) _ hΦ (t.trans (tr_new s' hp)) (sm_new s') (dt_list.mpr ⟨p, _, rfl, upd_same, .two (dt_str.mpr rfl) (dt_bool.mpr rfl)⟩)
end
end BW

set_option Elab.async false
set_option linter.all false
set_option maxRecDepth 100000
set_option maxHeartbeats 4000000
namespace BW
open PySem PySem.Spec PyProof.Rows L2
local macro_rules | `(tactic| walk_at "wd") => `(tactic| (repeat (first
  | with_reducible refine ws_seq ?_
  | with_reducible refine ws_ret ?_
  | with_reducible refine ws_set ?_
  | with_reducible refine ws_par ?_
  | with_reducible refine ws_next ?_
  | with_reducible refine we_var (by with_unfolding_all rfl) ?_
  | with_reducible refine we_int ?_
  | with_reducible refine we_bl ?_
  | with_reducible refine we_str ?_
  | with_reducible refine we_non ?_
  | with_reducible refine wa_cons ?_
  | with_reducible refine wa_nil ?_
  | with_reducible refine we_tup ?_
  | with_reducible refine we_lst ?_
  | with_reducible refine we_call ?_
  | with_reducible refine we_op2 rd_i0 ?_
  | with_reducible refine we_op2 rd_i ?_
  | with_reducible refine we_op2 rd_ixT ?_
  | with_reducible refine we_op2 rd_ixL ?_
  | with_reducible refine we_op2 rd_cat ?_
  | with_reducible refine we_neg ?_
  | with_reducible refine we_cb cd_len ?_
  | with_reducible refine we_cb cd_list ?_
  | with_reducible refine we_cb cd_tuple ?_
  | with_reducible refine we_cb cd_all ?_
  | with_reducible refine we_cb cd_divmod ?_
  | with_reducible refine we_isi (by decide) ?_
  | with_reducible refine we_isi2 (by decide) (by decide) ?_
  | with_reducible refine we_if ?_
  | with_reducible refine ws_if ?_
  | with_reducible refine wt_b ?_
  | with_reducible refine wt_test ?_
  | with_reducible refine wt_not ?_
  | with_reducible refine wt_or ?_
  | with_reducible refine wt_and ?_
  | with_reducible refine we_notV ?_
  | with_reducible refine we_andV ?_
  | with_reducible refine we_orV ?_
  | with_reducible refine we_back ?_
  | with_reducible refine wo_none ?_
  | with_reducible refine wo_some ?_
  | with_reducible refine ⟨_, _, rfl, rfl, rfl, ?_⟩
  | with_reducible refine ⟨by with_unfolding_all rfl, ?_⟩
  | refine ⟨_, rfl, ?_⟩
  | with_reducible refine ⟨_, _, rfl, ?_⟩
  | refine ⟨_, _, rfl, Or.inr rfl, ?_⟩
  | refine ⟨_, _, rfl, Or.inl rfl, ?_⟩
  | refine ⟨Nat.le_of_ble_eq_true (by with_unfolding_all rfl), ?_⟩
  )))
mutual
def lstD : PyData → PyData
  | .list ds => .list (lstDs ds)
  | .tuple ds => .list (lstDs ds)
  | d => d
def lstDs : List PyData → List PyData
  | [] => []
  | d :: ds => lstD d :: lstDs ds
end
theorem lstDs_map : ∀ ds, lstDs ds = ds.map lstD
  | [] => by unfold lstDs; rfl
  | d :: ds => by
    unfold lstDs
    rw [lstDs_map ds]
    rfl
theorem lstD_list (ds : List PyData) : lstD (.list ds) = .list (ds.map lstD) := by
  show PyData.list (lstDs ds) = _
  rw [lstDs_map]
theorem lstD_tuple (ds : List PyData) : lstD (.tuple ds) = .list (ds.map lstD) := by
  show PyData.list (lstDs ds) = _
  rw [lstDs_map]
theorem lst_ints (w : List Int) : (w.map PyData.int).map lstD = w.map PyData.int := by
  rw [List.map_map]
  rfl
theorem lstD_dT (w : List Int) : lstD (dT w) = dL w := by
  show lstD (.tuple _) = _
  rw [lstD_tuple, lst_ints]
  rfl
theorem lstD_train (ws : List (List Int)) : lstD (.tuple (ws.map dT)) = .list (ws.map dL) := by
  rw [lstD_tuple, List.map_map]
  congr 1
  apply List.map_congr_left
  intro u _
  exact lstD_dT u
theorem lstD_atom {d : PyData} (h : atomD d = true) : lstD d = d := by
  cases d with
  | list b => cases h
  | tuple b => cases h
  | dict b => cases h
  | _ => rfl
/-- data that the law compares -/
def atomS : PyData → Bool
  | .int _ => true
  | .bool _ => true
  | .str _ => true
  | _ => false
def okS : Nat → PyData → Prop
  | 0, d => atomS d = true
  | k + 1, d => match d with
    | .list ds => ds.length ≤ 1000 ∧ ∀ x ∈ ds, okS k x
    | .tuple ds => ds.length ≤ 1000 ∧ ∀ x ∈ ds, okS k x
    | d => atomS d = true
theorem zip_self {es : List PyData} {d : PyData} (h : d ∈ List.zipWith pairD es es) : ∃ x ∈ es, d = .tuple [x, x] := by
  obtain ⟨i, hi⟩ := List.mem_iff_getElem?.mp h
  rw [List.getElem?_zipWith] at hi
  cases e : es[i]? with
  | none =>
    rw [e] at hi
    cases hi
  | some x =>
    rw [e] at hi
    exact ⟨x, List.mem_of_getElem? e, (Option.some.inj hi).symm⟩
theorem isi_ss (i : Str) : isiD (.str i) "str" = true := by show (kitB "str" "str" == some true) = true; decide +kernel
theorem isi_bb (i : Bool) : isiD (.bool i) "bool" = true := by show (kitB "bool" "bool" == some true) = true; decide +kernel
theorem all_true (ds : List PyData) : (ds.map fun _ => PyData.bool true) = (ds.map fun _ => true).map PyData.bool := by
  rw [List.map_map]
  rfl
section
variable {P : Program} {w : World} {K : PySem.W.Frag} {mg : Str → Option Value} {base : Heap}
def R_lists (k : Nat) (ds : List PyData) (Φ : PyData → Prop) : Prop := ∃ d, ds = [d] ∧ okD k d ∧ Φ (lstD d)
theorem dn_lists (T : Txt K mg) : ∀ k : Nat, Dn P w K mg base CX0 "_law_lists" (k + 1) ["_law_matter"] (spD 1 (R_lists k)) := by
  have atom : ∀ (k : Nat) (f : Addr) (fd : FuncData) (F : Fun K "_law_lists" "_law_lists" s__law_lists f fd) (cdv : Value) (A : Around) (outer : List Env) (s : Shared) (H : Hp) (vs : List V) (Q : VK) (E : XK), (∃ (G : Hp) (d : PyData) (Φ : PyData → Prop), atomD d = true ∧ Same G H ∧ DtAll G [d] vs ∧ Φ d ∧
      ∀ v d G' H', Φ d → Tr none G H G' H' → Same G' H' → Dt G' d v → Q v H') → ∃ t, PSs (cxOf CX0 P w K mg base n__law_lists "_law_lists" (defScope s__law_lists) f cdv A outer s H E).nox (defBody s__law_lists) t ∧ t { nx := fun _ H' => Q .non H', rt := Q } (L2.start n__law_lists vs) H := by
    intro k f fd F cdv A outer s H vs Q E h
    refine ⟨_, (pss_one (ps_ret (pe_ifExp (pt_val (pe_callB (isiT_K (K := K)) (by rfl) T.b_isinstance (by decide +kernel) (pa_cons (pv 0) (pa_cons (pe_tup (pa_cons (pe_bltn (v := .ty "list") (by rfl) T.b_list (by decide +kernel) rfl) (pa_cons (pe_bltn (v := .ty "tuple") (by rfl) T.b_tuple (by decide +kernel) rfl) pa_nil))) pa_nil)))) pe_never (pv 0)))), ?_⟩
    obtain ⟨G, d, Φ, ha, s1, x, hΦ, q⟩ := h
    refine fn_D (E := E) (ar := 1) (F := fun ds Φ' => ds = [d] ∧ Φ' d) ⟨G, [d], Φ, rfl, s1, x, ⟨rfl, hΦ⟩, q⟩ ?_
    rintro ds Φ' _ ⟨rfl, h⟩
    walk_at "wd"
    refine ⟨fun e => ?_, fun e => ?_⟩
    · rw [isi_atom ha] at e
      cases e
    · walk_at "wd"
      exact h
  intro k
  induction k with
  | zero =>
    refine Dn.of T.f__law_lists (fun f fd F => F.ok sc__law_lists (fun vs H Q E h => spD_len h) (fun cdv A outer s H vs Q E hr h => atom 0 f fd F cdv A outer s H vs Q E ?_)) (fun f fd F => F.binds fun _ _ _ _ _ _ us hl => match us, hl with | [_], _ => rfl)
    obtain ⟨G, ds, Φ, e, s1, x, ⟨d, rfl, ho, hΦ⟩, q⟩ := h
    rw [lstD_atom ho] at hΦ
    exact ⟨G, d, Φ, ho, s1, x, hΦ, q⟩
  | succ k D__law_lists =>
    refine Dn.of T.f__law_lists (fun f fd F => F.ok sc__law_lists (fun vs H Q E h => spD_len h) (fun cdv A outer s H vs Q E hr h => ?_)) (fun f fd F => F.binds fun _ _ _ _ _ _ us hl => match us, hl with | [_], _ => rfl)
    obtain ⟨G, ds, Φ, e, s1, x, ⟨d, rfl, ho, hΦ⟩, q⟩ := h
    cases hd : atomD d with
    | true =>
      rw [lstD_atom hd] at hΦ
      exact atom k f fd F cdv A outer s H vs Q E ⟨G, d, Φ, hd, s1, x, hΦ, q⟩
    | false =>
      cases d with
      | list es =>
        obtain ⟨hl, hk⟩ := ho
        refine ⟨_, (pss_one (ps_ret (pe_ifExp (pt_val (pe_callB (isiT_K (K := K)) (by rfl) T.b_isinstance (by decide +kernel) (pa_cons (pv 0) (pa_cons (pe_tup (pa_cons (pe_bltn (v := .ty "list") (by rfl) T.b_list (by decide +kernel) rfl) (pa_cons (pe_bltn (v := .ty "tuple") (by rfl) T.b_tuple (by decide +kernel) rfl) pa_nil))) pa_nil)))) (pe_lc (own := [("_law_bit", 1)]) (g := gName 1) (tt := tYes) rfl sc__law_lists.nd (piL_K (K := K) (pv 0)) (blkOk_by (N := n__law_lists) (sc := defScope s__law_lists) (by decide +kernel)) (fun _ _ _ _ _ => (pg_name (i := 1) sc__law_lists.nd rfl (Or.inl rfl))) (fun _ _ _ _ _ => pts_nil) (fun _ _ _ _ _ => (pe_dn D__law_lists (hr.mono (by omega)) (pa_cons (pv 1) pa_nil)))) (pv 0)))), fn_D (E := E) (ar := 1) (F := fun ds Φ' => ds = [.list es] ∧ Φ' (lstD (.list es))) ⟨G, [.list es], Φ, rfl, s1, x, ⟨rfl, hΦ⟩, q⟩ ?_⟩
        rintro ds Φ' _ ⟨rfl, h⟩
        rw [lstD_list] at h
        walk_at "wd"
        refine ⟨fun e => ?_, fun e => ?_⟩
        · walk_at "wd"
          refine we_lc (tg_name 1) (WI.t (wi_list ?_))
          walk_at "wd"
          refine ⟨hl, fun _ _ => trivial, lc_map (g := lstD) (fun y hy n' Φ2 h2 => ?_) ?_⟩
          · walk_at "wd"
            exact ⟨hk y hy, h2⟩
          · walk_at "wd"
            exact h
        · rw [isi_ll] at e
          cases e
      | tuple es =>
        obtain ⟨hl, hk⟩ := ho
        refine ⟨_, (pss_one (ps_ret (pe_ifExp (pt_val (pe_callB (isiT_K (K := K)) (by rfl) T.b_isinstance (by decide +kernel) (pa_cons (pv 0) (pa_cons (pe_tup (pa_cons (pe_bltn (v := .ty "list") (by rfl) T.b_list (by decide +kernel) rfl) (pa_cons (pe_bltn (v := .ty "tuple") (by rfl) T.b_tuple (by decide +kernel) rfl) pa_nil))) pa_nil)))) (pe_lc (own := [("_law_bit", 1)]) (g := gName 1) (tt := tYes) rfl sc__law_lists.nd (piT_K (K := K) (pv 0)) (blkOk_by (N := n__law_lists) (sc := defScope s__law_lists) (by decide +kernel)) (fun _ _ _ _ _ => (pg_name (i := 1) sc__law_lists.nd rfl (Or.inl rfl))) (fun _ _ _ _ _ => pts_nil) (fun _ _ _ _ _ => (pe_dn D__law_lists (hr.mono (by omega)) (pa_cons (pv 1) pa_nil)))) (pv 0)))), fn_D (E := E) (ar := 1) (F := fun ds Φ' => ds = [.tuple es] ∧ Φ' (lstD (.tuple es))) ⟨G, [.tuple es], Φ, rfl, s1, x, ⟨rfl, hΦ⟩, q⟩ ?_⟩
        rintro ds Φ' _ ⟨rfl, h⟩
        rw [lstD_tuple] at h
        walk_at "wd"
        refine ⟨fun e => ?_, fun e => ?_⟩
        · walk_at "wd"
          refine we_lc (tg_name 1) (WI.t (wi_tup ?_))
          walk_at "wd"
          refine ⟨hl, fun _ _ => trivial, lc_map (g := lstD) (fun y hy n' Φ2 h2 => ?_) ?_⟩
          · walk_at "wd"
            exact ⟨hk y hy, h2⟩
          · walk_at "wd"
            exact h
        · rw [isi_tt, isi_tl] at e
          cases e
      | dict _ => exact ho.elim
      | _ => cases hd
def R_same (k : Nat) (ds : List PyData) (Φ : PyData → Prop) : Prop := ∃ d, ds = [d, d] ∧ okS k d ∧ Φ (.bool true)
theorem dn_same (T : Txt K mg) : ∀ k : Nat, Dn P w K mg base CX0 "_law_same" (k + 1) ["_law_got", "_law_due"] (spD 2 (R_same k)) := by
  have atom : ∀ (k : Nat) (f : Addr) (fd : FuncData) (F : Fun K "_law_same" "_law_same" s__law_same f fd) (cdv : Value) (A : Around) (outer : List Env) (s : Shared) (H : Hp) (vs : List V) (Q : VK) (E : XK) (hr : Room k (A.deeper (envOfC "_law_same" (defScope s__law_same) s.heap.objs.size f cdv))), (∃ (G : Hp) (d : PyData) (Φ : PyData → Prop), atomS d = true ∧ Same G H ∧ DtAll G [d, d] vs ∧ Φ (.bool true) ∧
      ∀ v d G' H', Φ d → Tr none G H G' H' → Same G' H' → Dt G' d v → Q v H') → ∃ t, PSs (cxOf CX0 P w K mg base n__law_same "_law_same" (defScope s__law_same) f cdv A outer s H E).nox (defBody s__law_same) t ∧ t { nx := fun _ H' => Q .non H', rt := Q } (L2.start n__law_same vs) H := by
    intro k f fd F cdv A outer s H vs Q E hr h
    refine ⟨_, (pss_cons (ps_if (pt_val (pe_callB (isiT_K (K := K)) (by rfl) T.b_isinstance (by decide +kernel) (pa_cons (pv 1) (pa_cons (pe_tup (pa_cons (pe_bltn (v := .ty "list") (by rfl) T.b_list (by decide +kernel) rfl) (pa_cons (pe_bltn (v := .ty "tuple") (by rfl) T.b_tuple (by decide +kernel) rfl) pa_nil))) pa_nil)))) (pss_cons ps_never (pss_one ps_never)) pss_nil) (pss_cons (ps_if (PW.pt (pw_or (pt_cmpR op_isN (pv 1) pe_non (nomark _)) (pw_or1 (pt_val (pe_callB (isiT_K (K := K)) (by rfl) T.b_isinstance (by decide +kernel) (pa_cons (pv 1) (pa_cons (pe_tup (pa_cons (pe_bltn (v := .ty "bool") (by rfl) T.b_bool (by decide +kernel) rfl) (pa_cons (pe_bltn (v := .ty "str") (by rfl) T.b_str (by decide +kernel) rfl) pa_nil))) pa_nil))))))) (pss_one (ps_ret (pe_and (pe_cmpR op_eq (pv 0) (pv 1) (nomark _)) (pe_and (pe_cmpR op_eq (pe_callB (isi_K (K := K)) (by rfl) T.b_isinstance (by decide +kernel) (pa_cons (pv 0) (pa_cons (pe_bltn (v := .ty "bool") (by rfl) T.b_bool (by decide +kernel) rfl) pa_nil))) (pe_callB (isi_K (K := K)) (by rfl) T.b_isinstance (by decide +kernel) (pa_cons (pv 1) (pa_cons (pe_bltn (v := .ty "bool") (by rfl) T.b_bool (by decide +kernel) rfl) pa_nil))) (nomark _)) (pe_one (pe_cmpR op_eq (pe_cmpR op_isN (pv 0) pe_non (nomark _)) (pe_cmpR op_isN (pv 1) pe_non (nomark _)) (nomark _))))))) pss_nil) (pss_one (ps_ret (pe_and (pe_callB (isi_K (K := K)) (by rfl) T.b_isinstance (by decide +kernel) (pa_cons (pv 0) (pa_cons (pe_bltn (v := .ty "int") (by rfl) T.b_int (by decide +kernel) rfl) pa_nil))) (pe_and (pe_not (pe_callB (isi_K (K := K)) (by rfl) T.b_isinstance (by decide +kernel) (pa_cons (pv 0) (pa_cons (pe_bltn (v := .ty "bool") (by rfl) T.b_bool (by decide +kernel) rfl) pa_nil)))) (pe_one (pe_cmpR op_eq (pv 0) (pv 1) (nomark _))))))))), ?_⟩
    obtain ⟨G, d, Φ, ha, s1, x, hΦ, q⟩ := h
    refine fn_D (E := E) (ar := 2) (F := fun ds Φ' => ds = [d, d] ∧ Φ' (.bool true)) ⟨G, [d, d], Φ, rfl, s1, x, ⟨rfl, hΦ⟩, q⟩ ?_
    rintro ds Φ' _ ⟨rfl, h⟩
    walk_at "wd"
    rw [isi_atom (by cases d <;> first | rfl | cases ha)]
    refine ⟨fun e => (by cases e), fun _ => ?_⟩
    walk_at "wd"
    refine we_op2 rd_isN ?_
    walk_at "wd"
    cases d with
    | int i =>
      refine ⟨fun e => (by cases e), fun _ => ?_⟩
      walk_at "wd"
      rw [isi_ib, isi_is]
      refine ⟨fun e => (by cases e), fun _ => ?_⟩
      walk_at "wd"
      rw [isi_ii]
      refine ⟨fun e => (by cases e), fun _ => ?_⟩
      walk_at "wd"
      rw [isi_ib]
      refine ⟨fun e => (by cases e), fun _ => ?_⟩
      refine we_op2 rd_eqI ?_
      walk_at "wd"
      refine ⟨_, _, rfl, rfl, ?_⟩
      rw [decide_eq_true rfl]
      exact h
    | bool b =>
      refine ⟨fun e => (by cases e), fun _ => ?_⟩
      walk_at "wd"
      rw [isi_bb, Bool.true_or]
      refine ⟨fun _ => ?_, fun e => (by cases e)⟩
      walk_at "wd"
      refine we_op2 rd_eqB ?_
      walk_at "wd"
      refine ⟨_, _, rfl, rfl, ?_⟩
      rw [decide_eq_true rfl]
      refine ⟨_, rfl, fun e => (by cases e), fun _ => ?_⟩
      walk_at "wd"
      refine we_op2 rd_eqB ?_
      walk_at "wd"
      refine ⟨_, _, rfl, rfl, ?_⟩
      rw [decide_eq_true rfl]
      refine ⟨_, rfl, fun e => (by cases e), fun _ => ?_⟩
      refine we_op2 rd_eqB ?_
      refine we_op2 rd_isN ?_
      walk_at "wd"
      refine we_op2 rd_isN ?_
      walk_at "wd"
      refine ⟨_, _, rfl, rfl, ?_⟩
      rw [decide_eq_true rfl]
      exact h
    | str b =>
      refine ⟨fun e => (by cases e), fun _ => ?_⟩
      walk_at "wd"
      rw [isi_ss, Bool.or_true]
      refine ⟨fun _ => ?_, fun e => (by cases e)⟩
      walk_at "wd"
      refine we_op2 rd_eqS ?_
      walk_at "wd"
      refine ⟨_, _, rfl, rfl, ?_⟩
      rw [decide_eq_true rfl]
      refine ⟨_, rfl, fun e => (by cases e), fun _ => ?_⟩
      walk_at "wd"
      refine we_op2 rd_eqB ?_
      walk_at "wd"
      refine ⟨_, _, rfl, rfl, ?_⟩
      rw [decide_eq_true rfl]
      refine ⟨_, rfl, fun e => (by cases e), fun _ => ?_⟩
      refine we_op2 rd_eqB ?_
      refine we_op2 rd_isN ?_
      walk_at "wd"
      refine we_op2 rd_isN ?_
      walk_at "wd"
      refine ⟨_, _, rfl, rfl, ?_⟩
      rw [decide_eq_true rfl]
      exact h
    | none => cases ha
    | list _ => cases ha
    | tuple _ => cases ha
    | dict _ => cases ha
  intro k
  induction k with
  | zero =>
    refine Dn.of T.f__law_same (fun f fd F => F.ok sc__law_same (fun vs H Q E h => spD_len h) (fun cdv A outer s H vs Q E hr h => atom 0 f fd F cdv A outer s H vs Q E hr ?_)) (fun f fd F => F.binds fun _ _ _ _ _ _ us hl => match us, hl with | [_, _], _ => rfl)
    obtain ⟨G, ds, Φ, e, s1, x, ⟨d, rfl, ho, hΦ⟩, q⟩ := h
    exact ⟨G, d, Φ, ho, s1, x, hΦ, q⟩
  | succ k D__law_same =>
    refine Dn.of T.f__law_same (fun f fd F => F.ok sc__law_same (fun vs H Q E h => spD_len h) (fun cdv A outer s H vs Q E hr h => ?_)) (fun f fd F => F.binds fun _ _ _ _ _ _ us hl => match us, hl with | [_, _], _ => rfl)
    obtain ⟨G, ds, Φ, e, s1, x, ⟨d, rfl, ho, hΦ⟩, q⟩ := h
    cases hd : atomS d with
    | true => exact atom (k + 1) f fd F cdv A outer s H vs Q E hr ⟨G, d, Φ, hd, s1, x, hΦ, q⟩
    | false =>
      obtain ⟨es, hes, hl, hk, i1, i2⟩ : ∃ es, (d = .list es ∨ d = .tuple es) ∧ es.length ≤ 1000 ∧ (∀ y ∈ es, okS k y) ∧ (isiD d "list" || isiD d "tuple") = true ∧ True := by
        cases d with
        | list es => exact ⟨es, .inl rfl, ho.1, ho.2, by rw [isi_ll]; rfl, trivial⟩
        | tuple es => exact ⟨es, .inr rfl, ho.1, ho.2, by rw [isi_tt, Bool.or_true], trivial⟩
        | dict _ => exact absurd ho (by intro z; cases z)
        | none => exact absurd ho (by intro z; cases z)
        | int _ => cases hd
        | bool _ => cases hd
        | str _ => cases hd
      refine ⟨_, (pss_cons (ps_if (pt_val (pe_callB (isiT_K (K := K)) (by rfl) T.b_isinstance (by decide +kernel) (pa_cons (pv 1) (pa_cons (pe_tup (pa_cons (pe_bltn (v := .ty "list") (by rfl) T.b_list (by decide +kernel) rfl) (pa_cons (pe_bltn (v := .ty "tuple") (by rfl) T.b_tuple (by decide +kernel) rfl) pa_nil))) pa_nil)))) (pss_cons (ps_if (PW.pt (pw_or (pt_cmpR op_ne (pe_callB (isi_K (K := K)) (by rfl) T.b_isinstance (by decide +kernel) (pa_cons (pv 0) (pa_cons (pe_bltn (v := .ty "list") (by rfl) T.b_list (by decide +kernel) rfl) pa_nil))) (pe_callB (isi_K (K := K)) (by rfl) T.b_isinstance (by decide +kernel) (pa_cons (pv 1) (pa_cons (pe_bltn (v := .ty "list") (by rfl) T.b_list (by decide +kernel) rfl) pa_nil))) (nomark _)) (pw_or1 (pt_cmpR op_ne (pe_callB (isi_K (K := K)) (by rfl) T.b_isinstance (by decide +kernel) (pa_cons (pv 0) (pa_cons (pe_bltn (v := .ty "tuple") (by rfl) T.b_tuple (by decide +kernel) rfl) pa_nil))) (pe_callB (isi_K (K := K)) (by rfl) T.b_isinstance (by decide +kernel) (pa_cons (pv 1) (pa_cons (pe_bltn (v := .ty "tuple") (by rfl) T.b_tuple (by decide +kernel) rfl) pa_nil))) (nomark _))))) (pss_one (ps_ret pe_bl)) pss_nil) (pss_one (ps_ret (pe_and (pe_cmpR op_eq (pe_callB (len_K (K := K)) (by rfl) T.b_len PySem.boot_len (pa_cons (pv 0) pa_nil)) (pe_callB (len_K (K := K)) (by rfl) T.b_len PySem.boot_len (pa_cons (pv 1) pa_nil)) (nomark _)) (pe_one (pe_callB (all_K (K := K)) (by rfl) T.b_all (by decide +kernel) (pa_cons (pe_lc (own := [("_law_mine", 2), ("_law_its", 3)]) (g := gTup _ 2 (gCons (gName 2) (gCons (gName 3) gNil))) (tt := tYes) rfl sc__law_same.nd (zip_K (K := K) (by rfl) T.b_zip (pa_cons (pv 0) (pa_cons (pv 1) pa_nil))) (blkOk_by (N := n__law_same) (sc := defScope s__law_same) (by decide +kernel)) (fun _ _ _ _ _ => (pg_tup rfl (pgs_cons (pg_name (i := 2) sc__law_same.nd rfl (Or.inl rfl)) (pgs_cons (pg_name (i := 3) sc__law_same.nd rfl (Or.inl rfl)) pgs_nil)))) (fun _ _ _ _ _ => pts_nil) (fun _ _ _ _ _ => (pe_dn D__law_same (hr.mono (by omega)) (pa_cons (pv 2) (pa_cons (pv 3) pa_nil))))) pa_nil))))))) pss_nil) (pss_cons (ps_if (PW.pt (pw_or (pt_cmpR op_isN (pv 1) pe_non (nomark _)) (pw_or1 (pt_val (pe_callB (isiT_K (K := K)) (by rfl) T.b_isinstance (by decide +kernel) (pa_cons (pv 1) (pa_cons (pe_tup (pa_cons (pe_bltn (v := .ty "bool") (by rfl) T.b_bool (by decide +kernel) rfl) (pa_cons (pe_bltn (v := .ty "str") (by rfl) T.b_str (by decide +kernel) rfl) pa_nil))) pa_nil))))))) (pss_one (ps_ret (pe_and (pe_cmpR op_eq (pv 0) (pv 1) (nomark _)) (pe_and (pe_cmpR op_eq (pe_callB (isi_K (K := K)) (by rfl) T.b_isinstance (by decide +kernel) (pa_cons (pv 0) (pa_cons (pe_bltn (v := .ty "bool") (by rfl) T.b_bool (by decide +kernel) rfl) pa_nil))) (pe_callB (isi_K (K := K)) (by rfl) T.b_isinstance (by decide +kernel) (pa_cons (pv 1) (pa_cons (pe_bltn (v := .ty "bool") (by rfl) T.b_bool (by decide +kernel) rfl) pa_nil))) (nomark _)) (pe_one (pe_cmpR op_eq (pe_cmpR op_isN (pv 0) pe_non (nomark _)) (pe_cmpR op_isN (pv 1) pe_non (nomark _)) (nomark _))))))) pss_nil) (pss_one (ps_ret (pe_and (pe_callB (isi_K (K := K)) (by rfl) T.b_isinstance (by decide +kernel) (pa_cons (pv 0) (pa_cons (pe_bltn (v := .ty "int") (by rfl) T.b_int (by decide +kernel) rfl) pa_nil))) (pe_and (pe_not (pe_callB (isi_K (K := K)) (by rfl) T.b_isinstance (by decide +kernel) (pa_cons (pv 0) (pa_cons (pe_bltn (v := .ty "bool") (by rfl) T.b_bool (by decide +kernel) rfl) pa_nil)))) (pe_one (pe_cmpR op_eq (pv 0) (pv 1) (nomark _))))))))), fn_D (E := E) (ar := 2) (F := fun ds Φ' => ds = [d, d] ∧ Φ' (.bool true)) ⟨G, [d, d], Φ, rfl, s1, x, ⟨rfl, hΦ⟩, q⟩ ?_⟩
      rintro ds Φ' _ ⟨rfl, h⟩
      walk_at "wd"
      rw [i1]
      refine ⟨fun _ => ?_, fun e => (by cases e)⟩
      walk_at "wd"
      refine we_op2 rd_neB ?_
      walk_at "wd"
      refine ⟨_, _, rfl, rfl, ?_⟩
      rw [decide_eq_true rfl]
      refine ⟨_, rfl, fun e => (by cases e), fun _ => ?_⟩
      walk_at "wd"
      refine we_op2 rd_neB ?_
      walk_at "wd"
      refine ⟨_, _, rfl, rfl, ?_⟩
      rw [decide_eq_true rfl]
      refine ⟨_, rfl, fun e => (by cases e), fun _ => ?_⟩
      walk_at "wd"
      refine we_op2 rd_eqI ?_
      walk_at "wd"
      refine ⟨d, es, rfl, hes, ?_⟩
      walk_at "wd"
      refine ⟨d, es, rfl, hes, ?_⟩
      walk_at "wd"
      refine ⟨_, _, rfl, rfl, ?_⟩
      rw [decide_eq_true rfl]
      refine ⟨_, rfl, fun e => (by cases e), fun _ => ?_⟩
      walk_at "wd"
      refine we_lc (tg_pair (by decide)) (WI.t (wi_zip ?_))
      walk_at "wd"
      refine ⟨es, es, hes.elim (fun z => .inl (by rw [z])) (fun z => .inr (by rw [z])), ?_, fun y hy => ?_, lc_map (g := fun _ => PyData.bool true) (fun y hy n' Φ2 h2 => ?_) ?_⟩
      · rw [List.length_zipWith]
        omega
      · obtain ⟨z, _, rfl⟩ := zip_self hy
        exact ⟨_, _, rfl⟩
      · obtain ⟨z, hz, rfl⟩ := zip_self hy
        walk_at "wd"
        exact ⟨hk z hz, h2⟩
      · rw [all_true]
        walk_at "wd"
        rw [show ((List.zipWith pairD es es).map fun _ => true).all id = true by simp]
        exact h
end
end BW

set_option Elab.async false
set_option linter.all false
set_option maxRecDepth 100000
set_option maxHeartbeats 4000000
namespace BW
open PySem PySem.Spec PyProof.Rows L2
local macro_rules | `(tactic| walk_at "wd") => `(tactic| (repeat (first
  | with_reducible refine ws_seq ?_
  | with_reducible refine ws_ret ?_
  | with_reducible refine ws_set ?_
  | with_reducible refine ws_par ?_
  | with_reducible refine ws_next ?_
  | with_reducible refine we_var (by with_unfolding_all rfl) ?_
  | with_reducible refine we_int ?_
  | with_reducible refine we_bl ?_
  | with_reducible refine we_str ?_
  | with_reducible refine we_non ?_
  | with_reducible refine wa_cons ?_
  | with_reducible refine wa_nil ?_
  | with_reducible refine we_tup ?_
  | with_reducible refine we_lst ?_
  | with_reducible refine we_call ?_
  | with_reducible refine we_op2 rd_i0 ?_
  | with_reducible refine we_op2 rd_i ?_
  | with_reducible refine we_op2 rd_ixT ?_
  | with_reducible refine we_op2 rd_ixL ?_
  | with_reducible refine we_op2 rd_cat ?_
  | with_reducible refine we_neg ?_
  | with_reducible refine we_cb cd_len ?_
  | with_reducible refine we_cb cd_list ?_
  | with_reducible refine we_cb cd_tuple ?_
  | with_reducible refine we_cb cd_all ?_
  | with_reducible refine we_cb cd_divmod ?_
  | with_reducible refine we_isi (by decide) ?_
  | with_reducible refine we_isi2 (by decide) (by decide) ?_
  | with_reducible refine we_if ?_
  | with_reducible refine ws_if ?_
  | with_reducible refine wt_b ?_
  | with_reducible refine wt_test ?_
  | with_reducible refine wt_not ?_
  | with_reducible refine wt_or ?_
  | with_reducible refine wt_and ?_
  | with_reducible refine we_notV ?_
  | with_reducible refine we_andV ?_
  | with_reducible refine we_orV ?_
  | with_reducible refine we_back ?_
  | with_reducible refine wo_none ?_
  | with_reducible refine wo_some ?_
  | with_reducible refine ⟨_, _, rfl, rfl, rfl, ?_⟩
  | with_reducible refine ⟨by with_unfolding_all rfl, ?_⟩
  | refine ⟨_, rfl, ?_⟩
  | with_reducible refine ⟨_, _, rfl, ?_⟩
  | refine ⟨_, _, rfl, Or.inr rfl, ?_⟩
  | refine ⟨_, _, rfl, Or.inl rfl, ?_⟩
  | refine ⟨Nat.le_of_ble_eq_true (by with_unfolding_all rfl), ?_⟩
  )))
def plainS : Sl → Bool
  | .un => true
  | .d _ => true
  | _ => false
theorem WS.imp {m : Option Addr} {t : TS} {l : List Sl} {n : Nat} {Ψ Ψ' : List Sl → Nat → Prop} {R : PyP} (h : WS m t l n Ψ R) (k : ∀ l n, Ψ l n → Ψ' l n) : WS m t l n Ψ' R := fun G0 B σ G H D h0 hs hw hn hr => h G0 B σ G H D h0 hs hw (fun σ' l' n' G' H' p => hn σ' l' n' G' H' (k l' n' p)) hr
theorem fr_inv {m : Option Addr} {tb : TS} {f : List Sl → PyData → List Sl} {Ψ : List Sl → Nat → Prop} {R : PyP} {ds : List PyData} (I : Nat → List Sl → Nat → Prop)
    (step : ∀ (i : Nat) (d : PyData) (l : List Sl) (n : Nat), ds[i]? = some d → I i l n → WS m tb (f l d) n (fun l' n' => I (i + 1) l' n') R) (fin : ∀ l n, I ds.length l n → Ψ l n) {l : List Sl} {n : Nat} (h0 : I 0 l n) : Fr m tb f Ψ R ds l n := by
  have main : ∀ (r : List PyData) (k : Nat) (l : List Sl) (n : Nat), ds.drop k = r → I k l n → k + r.length = ds.length → Fr m tb f Ψ R r l n := by
    intro r
    induction r with
    | nil =>
      intro k l n _ hI hk
      have e : k = ds.length := by simpa using hk
      subst e
      exact fin l n hI
    | cons d r ih =>
      intro k l n hd hI hk
      have hdk : ds[k]? = some d := by
        have := congrArg List.head? hd
        rw [List.head?_drop] at this
        exact this
      refine (step k d l n hdk hI).imp fun l' n' h' => ih (k + 1) l' n' ?_ h' (by simp at hk; omega)
      have := congrArg List.tail hd
      rw [List.tail_drop] at this
      exact this
  exact main ds 0 l n (by simp) h0 (by simp)
theorem rng_data (N : Nat) : ((List.range N).map fun (i : Nat) => PyData.int (0 + (i : Int))) = (rng N).map PyData.int := by
  unfold rng
  rw [List.map_map]
  apply List.map_congr_left
  intro i _
  show PyData.int (0 + (i : Int)) = PyData.int i
  rw [Int.zero_add]
section
variable {P : Program} {w : World} {K : PySem.W.Frag} {mg : Str → Option Value} {base : Heap}
theorem dn_lawled (T : Txt K mg) : Dn P w K mg base CX0 "_law_led" 1 ["_law_disk_here", "_law_z"] (spD 2 R_led) := by
  refine Dn.of T.f__law_led (fun f fd F => F.ok sc__law_led (fun vs H Q E h => spD_len h) (fun cdv A outer s H vs Q E hr h => ⟨_, (pss_one (ps_ret (pe_op op_add (pe_ix (ixT_K (K := K)) (pv 0) (pe_op op_mod (pe_callTy call_int1 (by rfl) T.b_int (by decide +kernel) (pa_cons (pv 1) pa_nil)) (pe_callB (len_K (K := K)) (by rfl) T.b_len PySem.boot_len (pa_cons (pv 0) pa_nil))) (fun _ _ => rfl)) (pe_op op_mul (pe_op op_fdiv (pv 1) (pe_callB (len_K (K := K)) (by rfl) T.b_len PySem.boot_len (pa_cons (pv 0) pa_nil))) (pe_callB (len_K (K := K)) (by rfl) T.b_len PySem.boot_len (pa_cons (pv 0) pa_nil)))))), fn_D h ?_⟩)) (fun f fd F => F.binds fun _ _ _ _ _ _ us hl => match us, hl with | [_, _], _ => rfl)
  intro ds Φ _ hR
  obtain ⟨w, z, rfl, hw, hl, h⟩ := hR
  have hp := List.length_pos_iff.mpr hw
  obtain ⟨m0, m1, m2⟩ := mod_lt hw z
  walk_at "wd"
  refine we_cb cd_int ?_
  walk_at "wd"
  refine .inl ⟨_, rfl, ?_⟩
  walk_at "wd"
  rw [List.length_map]
  walk_at "wd"
  refine ⟨_, _, rfl, rfl, by omega, rfl, ?_⟩
  refine ⟨_, _, _, rfl, rfl, at_ints m0 m1, ?_⟩
  walk_at "wd"
  rw [List.length_map]
  walk_at "wd"
  refine ⟨_, _, rfl, rfl, ⟨by omega, by omega⟩, rfl, ?_⟩
  walk_at "wd"
  rw [List.length_map]
  walk_at "wd"
  refine ⟨_, _, rfl, rfl, .inr ⟨by omega, by omega⟩, rfl, ?_⟩
  walk_at "wd"
  exact h
theorem shf_data2 (N : Nat) (m : Int) : ((List.range N).map fun (i : Nat) => PyData.int (0 + (i : Int))).map (fun d => match d with | .int i => PyData.int (i + m) | _ => .none) = (shf N m).map PyData.int := by
  unfold shf
  rw [List.map_map, List.map_map]
  apply List.map_congr_left
  intro i _
  show PyData.int (0 + (i : Int) + m) = PyData.int (m + i)
  rw [Int.zero_add, Int.add_comm]
theorem dn_lawshift (T : Txt K mg) : Dn P w K mg base CX0 "_law_shift" 1 ["_law_ring_so", "_law_m"] (spD 2 R_shift) := by
  refine Dn.of T.f__law_shift (fun f fd F => F.ok sc__law_shift (fun vs H Q E h => spD_len h) (fun cdv A outer s H vs Q E hr h => ⟨_, (pss_one (ps_ret (pe_callTy (tuple_K (K := K)) (by rfl) T.b_tuple (by decide +kernel) (pa_cons (pe_lc (own := [("_law_k", 2)]) (g := gName 2) (tt := tYes) rfl sc__law_shift.nd (pi_range1 (by rfl) T.b_range (pa_cons (pv 0) pa_nil)) (blkOk_by (N := n__law_shift) (sc := defScope s__law_shift) (by decide +kernel)) (fun _ _ _ _ _ => (pg_name (i := 2) sc__law_shift.nd rfl (Or.inl rfl))) (fun _ _ _ _ _ => pts_nil) (fun _ _ _ _ _ => (pe_op op_add (pv 2) (pv 1)))) pa_nil)))), fn_D h ?_⟩)) (fun f fd F => F.binds fun _ _ _ _ _ _ us hl => match us, hl with | [_, _], _ => rfl)
  intro ds Φ _ hR
  obtain ⟨N, m, rfl, hN, h⟩ := hR
  walk_at "wd"
  refine we_lc (tg_name 2) (WI.t (wi_rngN ?_))
  walk_at "wd"
  refine ⟨hN, ?_⟩
  refine ⟨by simpa using hN, fun _ _ => trivial, lc_map (g := fun d => match d with | .int i => PyData.int (i + m) | _ => .none) (fun y hy n' Φ2 h2 => ?_) ?_⟩
  · obtain ⟨i, _, rfl⟩ := List.mem_map.mp hy
    walk_at "wd"
    exact h2
  · rw [shf_data2]
    walk_at "wd"
    exact h
def R_lawput (ds : List PyData) (Φ : PyData → Prop) : Prop := ∃ N ws, ds = [.tuple (ws.map dT)] ∧ AllW N ws ∧ Φ (dT (putL N ws))
theorem dn_lawput (T : Txt K mg) : Dn P w K mg base CX0 "_law_put" 2 ["_law_disks_here"] (spD 1 R_lawput) := by
  have D__law_led := dn_lawled (P := P) (w := w) (base := base) T
  refine Dn.of T.f__law_put (fun f fd F => F.ok sc__law_put (fun vs H Q E h => spD_len h) (fun cdv A outer s H vs Q E hr h => ⟨_, (pss_cons (ps_set (i := 1) sc__law_put.nd rfl (Or.inl rfl) (pe_lst pa_nil)) (pss_cons (ps_for PassesOwn.never rfl (pi_range1 (by rfl) T.b_range (pa_cons (pe_callB (len_K (K := K)) (by rfl) T.b_len PySem.boot_len (pa_cons (pe_ix (ixT_K (K := K)) (pv 0) pe_int (fun _ _ => rfl)) pa_nil)) pa_nil)) (pg_name (i := 2) sc__law_put.nd rfl (Or.inl rfl)) (pss_cons (ps_for PassesOwn.never rfl (piT_K (K := K) (back_K (K := K) (pv 0) po_none)) (pg_name (i := 3) sc__law_put.nd rfl (Or.inl rfl)) (pss_one (ps_set (i := 2) sc__law_put.nd rfl (Or.inl rfl) (pe_dn D__law_led (hr.mono (by omega)) (pa_cons (pv 3) (pa_cons (pv 2) pa_nil)))))) (pss_one (ps_expr (pe_bm PySem.F.plainAttrs_list PySem.F.slot_list_append PySem.F.type_list_append mt_append (pv 1) (pa_cons (pv 2) pa_nil)))))) (pss_one (ps_ret (pe_callTy (tuple_K (K := K)) (by rfl) T.b_tuple (by decide +kernel) (pa_cons (pv 1) pa_nil)))))), fn_D h ?_⟩)) (fun f fd F => F.binds fun _ _ _ _ _ _ us hl => match us, hl with | [_], _ => rfl)
  intro ds Φ _ hR
  obtain ⟨N, ws, rfl, ⟨hne, hlen, hN, hW⟩, h⟩ := hR
  have h0 : (ws.map dT)[0]? = some (dT (ws.headD [])) := by
    cases ws with
    | nil => exact absurd rfl hne
    | cons a r => rfl
  have hN0 : (ws.headD []).length = N := by
    cases ws with
    | nil => exact absurd rfl hne
    | cons a r => exact (hW a List.mem_cons_self).2
  refine ws_seq (ws_newL ?_)
  walk_at "wd"
  refine ws_for (tg_name 2) (wi_rngN ?_)
  walk_at "wd"
  refine ⟨_, _, _, rfl, rfl, atI_nat (j := 0) h0, ?_⟩
  walk_at "wd"
  rw [List.length_map, hN0, rng_data]
  refine ⟨hN, fun _ _ => trivial, ?_⟩
  have hws : ∀ u ∈ ws.reverse, u ≠ [] ∧ u.length ≤ 1000 := fun u hu => by
    have := hW u (List.mem_reverse.mp hu)
    exact ⟨isWb_nn this.1, by omega⟩
  refine fr_inv (fun i l n => ∃ s2 s3, l = [.d (.tuple (ws.map dT)), .ml (((rng N).take i).map fun z => PyData.int (ledAll ws z)), s2, s3] ∧ plainS s3 = true ∧ n = 0) ?_ ?_ ⟨.un, .un, rfl, rfl, rfl⟩
  · rintro i d l n hd ⟨s2, s3, rfl, hs3, rfl⟩
    rw [List.getElem?_map] at hd
    obtain ⟨z, hz, rfl⟩ := Option.map_eq_some_iff.mp hd
    walk_at "wd"
    refine ws_for (tg_name 3) (wi_tup ?_)
    walk_at "wd"
    rw [back_dL, back_all]
    refine ⟨fun _ _ => trivial, ?_⟩
    refine fr_inv (fun j l n => ∃ s3, l = [.d (.tuple (ws.map dT)), .ml (((rng N).take i).map fun z => PyData.int (ledAll ws z)), .d (.int ((ws.reverse.take j).foldl (fun z own => led own z) z)), s3] ∧ plainS s3 = true ∧ n = 0) ?_ ?_ ⟨s3, rfl, hs3, rfl⟩
    · rintro j d l n hd ⟨s3, rfl, hs3, rfl⟩
      rw [List.getElem?_map] at hd
      obtain ⟨u, hu, rfl⟩ := Option.map_eq_some_iff.mp hd
      obtain ⟨h1, h2⟩ := hws u (List.mem_of_getElem? hu)
      walk_at "wd"
      refine ⟨u, _, rfl, h1, h2, .d (dT u), ?_, rfl, rfl⟩
      rw [List.take_add_one, hu, List.foldl_append]
      rfl
    · rintro l n ⟨s3, rfl, hs3, rfl⟩
      rw [List.length_map, List.take_length, ledAll_fold]
      refine ws_appM rfl (by cases s3 <;> first | rfl | cases hs3) ?_
      walk_at "wd"
      have hi : i < N := by
        have := (List.getElem?_eq_some_iff.mp hz).1
        rw [rng_length] at this
        exact this
      refine ⟨by rw [List.length_map, List.length_take, rng_length]; omega, .d (.int (ledAll ws z)), s3, ?_, hs3, rfl⟩
      rw [List.take_add_one, hz, List.map_append]
      rfl
  · rintro l n ⟨s2, s3, rfl, _, rfl⟩
    rw [List.length_map, List.take_length]
    refine ws_ret (we_tupM rfl ?_)
    have e : ((rng N).map fun z => PyData.int (ledAll ws z)) = (putL N ws).map PyData.int := by
      unfold putL
      rw [List.map_map]
      rfl
    rw [e]
    exact h
end
end BW

set_option Elab.async false
set_option linter.all false
set_option maxRecDepth 100000
set_option maxHeartbeats 4000000
namespace BW
open PySem PySem.Spec PyProof.Rows L2
local macro_rules | `(tactic| walk_at "wd") => `(tactic| (repeat (first
  | with_reducible refine ws_seq ?_
  | with_reducible refine ws_ret ?_
  | with_reducible refine ws_set ?_
  | with_reducible refine ws_par ?_
  | with_reducible refine ws_next ?_
  | with_reducible refine we_lenM (by with_unfolding_all rfl) ?_
  | with_reducible refine we_tupM (by with_unfolding_all rfl) ?_
  | with_reducible refine we_ixM (by with_unfolding_all rfl) ?_
  | with_reducible refine we_var (by with_unfolding_all rfl) ?_
  | with_reducible refine we_int ?_
  | with_reducible refine we_bl ?_
  | with_reducible refine we_str ?_
  | with_reducible refine we_non ?_
  | with_reducible refine wa_cons ?_
  | with_reducible refine wa_nil ?_
  | with_reducible refine we_tup ?_
  | with_reducible refine we_lst ?_
  | with_reducible refine we_call ?_
  | with_reducible refine we_op2 rd_i0 ?_
  | with_reducible refine we_op2 rd_i ?_
  | with_reducible refine we_op2 rd_ixT ?_
  | with_reducible refine we_op2 rd_ixL ?_
  | with_reducible refine we_op2 rd_cat ?_
  | with_reducible refine we_neg ?_
  | with_reducible refine we_cb cd_len ?_
  | with_reducible refine we_cb cd_list ?_
  | with_reducible refine we_cb cd_tuple ?_
  | with_reducible refine we_cb cd_all ?_
  | with_reducible refine we_cb cd_divmod ?_
  | with_reducible refine we_isi (by decide) ?_
  | with_reducible refine we_isi2 (by decide) (by decide) ?_
  | with_reducible refine we_if ?_
  | with_reducible refine ws_if ?_
  | with_reducible refine wt_b ?_
  | with_reducible refine wt_test ?_
  | with_reducible refine wt_not ?_
  | with_reducible refine wt_or ?_
  | with_reducible refine wt_and ?_
  | with_reducible refine we_notV ?_
  | with_reducible refine we_andV ?_
  | with_reducible refine we_orV ?_
  | with_reducible refine we_back ?_
  | with_reducible refine wo_none ?_
  | with_reducible refine wo_some ?_
  | with_reducible refine ⟨_, _, rfl, rfl, rfl, ?_⟩
  | with_reducible refine ⟨by with_unfolding_all rfl, ?_⟩
  | refine ⟨_, rfl, ?_⟩
  | with_reducible refine ⟨_, _, rfl, ?_⟩
  | refine ⟨_, _, rfl, Or.inr rfl, ?_⟩
  | refine ⟨_, _, rfl, Or.inl rfl, ?_⟩
  | refine ⟨Nat.le_of_ble_eq_true (by with_unfolding_all rfl), ?_⟩
  )))
theorem look_some {g : Nat → Int} {m : Nat} {x v : Int} (h : lookI ((List.range m).map fun (i : Nat) => (g i, (i : Int))) x = some v) : ∃ k : Nat, k < m ∧ g k = x ∧ v = k := by
  unfold lookI at h
  obtain ⟨p, hp, rfl⟩ := Option.map_eq_some_iff.mp h
  have h1 := List.mem_of_find?_eq_some hp
  have h2 := List.find?_some hp
  obtain ⟨k, hk, rfl⟩ := List.mem_map.mp h1
  exact ⟨k, List.mem_range.mp hk, of_decide_eq_true h2, rfl⟩
theorem look_none {g : Nat → Int} {m : Nat} {x : Int} (h : lookI ((List.range m).map fun (i : Nat) => (g i, (i : Int))) x = none) : ∀ k : Nat, k < m → g k ≠ x := by
  intro k hk e
  unfold lookI at h
  have h1 := Option.map_eq_none_iff.mp h
  have h2 := List.find?_eq_none.mp h1 (g k, (k : Int)) (List.mem_map.mpr ⟨k, List.mem_range.mpr hk, rfl⟩)
  exact h2 (decide_eq_true e)
theorem row_last (g : Nat → PyData) (m : Nat) : L2.atI ((List.range (m + 1)).map g) (-1) = some (g m) := by
  rw [List.range_succ, List.map_append]
  exact atI_last _ _
theorem row_at (g : Nat → PyData) {m i : Nat} (h : i < m) : L2.atI ((List.range m).map g) (i : Int) = some (g i) := atI_nat (by simp [h])
section
variable {P : Program} {w : World} {K : PySem.W.Frag} {mg : Str → Option Value} {base : Heap}
def R_far (ds : List PyData) (Φ : PyData → Prop) : Prop := ∃ (w : List Int) (z : Int) (b : Nat), ds = [dT w, .int z, .int b] ∧ w ≠ [] ∧ w.length ≤ 100 ∧ (∀ x ∈ w, -1000 ≤ x ∧ x ≤ 1000) ∧ Φ (.int (it (led w) b z))
theorem dn_far (T : Txt K mg) : Dn P w K mg base CX0 "_law_far" 2 ["_law_disk_here", "_law_z", "_law_beats_so"] (spD 3 R_far) := by
  have D__law_led := dn_lawled (P := P) (w := w) (base := base) T
  refine Dn.of T.f__law_far (fun f fd F => F.ok sc__law_far (fun vs H Q E h => spD_len h) (fun cdv A outer s H vs Q E hr h => ⟨_, (pss_cons (ps_par (i := 5) (j := 6) rfl sc__law_far.nd rfl rfl (by decide) rfl rfl (pa_cons pe_dnewK (pa_cons (pe_lst (pa_cons (pv 1) pa_nil)) pa_nil)) (by rfl)) (pss_cons (ps_while PassesOwn.never (pt_cmp (pc_dnotin (hu_of hr) (pe_op op_mod (pe_callTy call_int1 (by rfl) T.b_int (by decide +kernel) (pa_cons (pe_ix (ixL_K (K := K)) (pv 6) (pe_un un_neg pe_int) (fun _ _ => rfl)) pa_nil)) (pe_callB (len_K (K := K)) (by rfl) T.b_len PySem.boot_len (pa_cons (pv 0) pa_nil))) (pv 5))) (pss_cons (ps_dput (hu_of hr) (pv 5) (pe_op op_mod (pe_callTy call_int1 (by rfl) T.b_int (by decide +kernel) (pa_cons (pe_ix (ixL_K (K := K)) (pv 6) (pe_un un_neg pe_int) (fun _ _ => rfl)) pa_nil)) (pe_callB (len_K (K := K)) (by rfl) T.b_len PySem.boot_len (pa_cons (pv 0) pa_nil))) (pe_op op_sub (pe_callB (len_K (K := K)) (by rfl) T.b_len PySem.boot_len (pa_cons (pv 6) pa_nil)) pe_int) rfl) (pss_one (ps_expr (pe_bm PySem.F.plainAttrs_list PySem.F.slot_list_append PySem.F.type_list_append mt_append (pv 6) (pa_cons (pe_dn D__law_led (hr.mono (by omega)) (pa_cons (pv 0) (pa_cons (pe_ix (ixL_K (K := K)) (pv 6) (pe_un un_neg pe_int) (fun _ _ => rfl)) pa_nil))) pa_nil)))))) (pss_cons (ps_if (pt_cmpR op_lt (pv 2) (pe_callB (len_K (K := K)) (by rfl) T.b_len PySem.boot_len (pa_cons (pv 6) pa_nil)) (nomark _)) (pss_one (ps_ret (pe_ix (ixL_K (K := K)) (pv 6) (pv 2) (fun _ _ => rfl)))) pss_nil) (pss_cons (ps_set (i := 3) sc__law_far.nd rfl (Or.inl rfl) (pe_dget (hu_of hr) (pv 5) (pe_op op_mod (pe_callTy call_int1 (by rfl) T.b_int (by decide +kernel) (pa_cons (pe_ix (ixL_K (K := K)) (pv 6) (pe_un un_neg pe_int) (fun _ _ => rfl)) pa_nil)) (pe_callB (len_K (K := K)) (by rfl) T.b_len PySem.boot_len (pa_cons (pv 0) pa_nil))) (fun _ _ => rfl))) (pss_cons (ps_par (i := 7) (j := 8) rfl sc__law_far.nd rfl rfl (by decide) rfl rfl (pa_cons (pe_op op_sub (pe_op op_sub (pe_callB (len_K (K := K)) (by rfl) T.b_len PySem.boot_len (pa_cons (pv 6) pa_nil)) pe_int) (pv 3)) (pa_cons (pe_op op_sub (pe_ix (ixL_K (K := K)) (pv 6) (pe_un un_neg pe_int) (fun _ _ => rfl)) (pe_ix (ixL_K (K := K)) (pv 6) (pv 3) (fun _ _ => rfl))) pa_nil)) (by rfl)) (pss_cons (ps_set (i := 4) sc__law_far.nd rfl (Or.inl rfl) (pe_op op_sub (pv 2) (pv 3))) (pss_one (ps_ret (pe_op op_add (pe_ix (ixL_K (K := K)) (pv 6) (pe_op op_add (pv 3) (pe_op op_mod (pe_callTy call_int1 (by rfl) T.b_int (by decide +kernel) (pa_cons (pv 4) pa_nil)) (pv 7))) (fun _ _ => rfl)) (pe_op op_mul (pe_op op_fdiv (pv 4) (pv 7)) (pv 8))))))))))), fn_D h ?_⟩)) (fun f fd F => F.binds fun _ _ _ _ _ _ us hl => match us, hl with | [_, _, _], _ => rfl)
  intro ds Φ _ hR
  obtain ⟨w, z, b, rfl, hw, hl, hB, h⟩ := hR
  have hp := List.length_pos_iff.mpr hw
  have per := led_add hw
  generalize hf : led w = f at *
  refine ws_seq (ws_newDL ?_)
  walk_at "wd"
  have idx : ∀ {Φ : PyP} {n m : Nat} {kvs : List (Int × Int)} {l3 l4 l7 l8 : Sl}, Φ (.int (it f m z % (w.length : Int))) n →
      WE none (tOp (rI (fun x j => 0 < j) fun i j => V.int (i % j)) (tCB (fun xs H Q => (∃ i, xs = [.int i] ∧ Q (.int i) H) ∨ ∃ k, xs = [.bl k] ∧ Q (.int (if k then 1 else 0)) H) (tCons (tOp (rIxL K) (tVar 6) (tUn (rU fun i => V.int (-i)) (tC (.int 1)))) tNil))
        (tCB (fun xs H Q => ∃ p ys, xs = [.ref p] ∧ (SqL K H p ys ∨ SqT K H p ys) ∧ Q (.int (ys.length : Nat)) H) (tCons (tVar 0) tNil))) [.d (dT w), .d (.int z), .d (.int b), l3, l4, .md kvs, .ml ((List.range (m + 1)).map fun i => PyData.int (it f i z)), l7, l8] n Φ := by
    intro Φ n m kvs l3 l4 l7 l8 hΦ
    refine we_op2 rd_i ?_
    refine we_cb cd_int ?_
    walk_at "wd"
    refine ⟨_, _, rfl, row_last _ m, ?_⟩
    walk_at "wd"
    refine .inl ⟨_, rfl, ?_⟩
    walk_at "wd"
    rw [List.length_map]
    refine ⟨_, _, rfl, rfl, by omega, rfl, ?_⟩
    exact hΦ
  refine ws_while (I := fun k l n => ∃ m : Nat, l = [.d (dT w), .d (.int z), .d (.int b), .un, .un, .md ((List.range m).map fun (i : Nat) => (it f i z % (w.length : Int), (i : Int))), .ml ((List.range (m + 1)).map fun i => PyData.int (it f i z)), .un, .un] ∧
    ((List.range m).map fun (i : Nat) => it f i z % (w.length : Int)).Nodup ∧ m ≤ w.length ∧ k = w.length - m ∧ n = 0) (k0 := w.length) ⟨0, rfl, List.nodup_nil, Nat.zero_le _, rfl, rfl⟩ ?_
  rintro k l n ⟨m, rfl, hnd, hm, rfl, rfl⟩
  walk_at "wd"
  refine we_dnotin rfl (idx ?_)
  walk_at "wd"
  have hlen1 : ((List.range (m + 1)).map fun i => PyData.int (it f i z)).length = m + 1 := by simp
  cases hlk : lookI ((List.range m).map fun (i : Nat) => (it f i z % (w.length : Int), (i : Int))) (it f m z % (w.length : Int)) with
  | none =>
    have hno := look_none hlk
    have hnd' : ((List.range (m + 1)).map fun (i : Nat) => it f i z % (w.length : Int)).Nodup := by
      rw [List.range_succ, List.map_append]
      refine List.nodup_append.mpr ⟨hnd, by simp, ?_⟩
      intro a ha c hc e
      obtain ⟨i, hi, rfl⟩ := List.mem_map.mp ha
      have hc' : c = it f m z % (w.length : Int) := by simpa using hc
      exact hno i (List.mem_range.mp hi) (e.trans hc')
    have hm1 : m + 1 ≤ w.length := by
      have := pigeon w.length _ hnd' fun x hx => by
        obtain ⟨i, _, rfl⟩ := List.mem_map.mp hx
        exact ⟨Int.emod_nonneg _ (by omega), Int.emod_lt_of_pos _ (by omega)⟩
      simpa using this
    refine ⟨fun _ => ?_, fun e => (by cases e)⟩
    refine ws_seq (ws_dput rfl rfl ?_)
    walk_at "wd"
    rw [hlen1]
    refine we_cb cd_int ?_
    walk_at "wd"
    refine ⟨_, _, rfl, row_last _ m, ?_⟩
    walk_at "wd"
    refine .inl ⟨_, rfl, ?_⟩
    walk_at "wd"
    rw [show (w.map PyData.int).length = w.length from List.length_map _]
    refine ⟨_, _, rfl, rfl, by omega, rfl, ?_⟩
    refine ⟨_, _, rfl, rfl, hlk, by simp; omega, ?_⟩
    refine ws_appM rfl rfl ?_
    walk_at "wd"
    refine ⟨_, _, rfl, row_last _ m, ?_⟩
    walk_at "wd"
    refine ⟨w, _, rfl, hw, by omega, ?_⟩
    rw [hlen1, hf]
    refine ⟨by omega, w.length - (m + 1), by omega, m + 1, ?_, hnd', hm1, rfl, rfl⟩
    rw [List.range_succ (n := m + 1), List.map_append, List.range_succ (n := m), List.map_append, List.map_append]
    have e1 : ((m + 1 : Nat) : Int) - 1 = (m : Int) := by omega
    rw [e1]
    rfl
  | some v =>
    refine ⟨fun e => (by cases e), fun _ => ?_⟩
    obtain ⟨k, hk, hkm, rfl⟩ := look_some hlk
    walk_at "wd"
    rw [hlen1]
    refine ⟨fun e => ?_, fun e => ?_⟩
    · have hb := of_decide_eq_true e
      walk_at "wd"
      refine ⟨_, _, rfl, row_at _ (by omega), ?_⟩
      exact h
    · have hb := of_decide_eq_false e
      have hmb : m < b := by omega
      have e1 : ((m + 1 : Nat) : Int) - 1 - (k : Int) = ((m - k : Nat) : Int) := by omega
      have e2 : (b : Int) - (k : Int) = ((b - k : Nat) : Int) := by omega
      -- what comes again, rounds apart
      obtain ⟨c, hc⟩ : ∃ c, it f m z = it f k z + c * (w.length : Int) := by
        refine ⟨it f m z / (w.length : Int) - it f k z / (w.length : Int), ?_⟩
        have a1 := Int.emod_add_mul_ediv (it f m z) (w.length : Int)
        have a2 := Int.emod_add_mul_ediv (it f k z) (w.length : Int)
        rw [Int.sub_mul, Int.mul_comm (it f m z / _), Int.mul_comm (it f k z / _)]
        omega
      have hgain : it f m z - it f k z = c * (w.length : Int) := by omega
      have near := it_near (f := f) (B := 1100) (fun x => by
        have := led_near hw hB x
        rw [hf] at this
        omega)
      have n1 := near m z
      have n2 := near k z
      have hmod : (b - k) % (m - k) < m - k := Nat.mod_lt _ (by omega)
      walk_at "wd"
      refine we_dget rfl (idx ?_)
      refine ⟨_, _, rfl, hlk, ?_⟩
      walk_at "wd"
      refine ⟨_, _, rfl, row_last _ m, ?_⟩
      walk_at "wd"
      refine ⟨_, _, rfl, row_at _ (by omega), ?_⟩
      walk_at "wd"
      rw [hlen1]
      refine we_cb cd_int ?_
      walk_at "wd"
      refine .inl ⟨_, rfl, ?_⟩
      walk_at "wd"
      rw [e1, e2]
      refine ⟨_, _, rfl, rfl, by omega, rfl, ?_⟩
      walk_at "wd"
      rw [← Int.natCast_emod, ← Int.natCast_add]
      refine ⟨_, _, rfl, row_at _ (by omega), ?_⟩
      walk_at "wd"
      refine ⟨_, _, rfl, rfl, ⟨by omega, by omega⟩, rfl, ?_⟩
      walk_at "wd"
      refine ⟨_, _, rfl, rfl, .inr ⟨by omega, by omega⟩, rfl, ?_⟩
      walk_at "wd"
      rw [hgain, ← Int.natCast_ediv]
      show Φ (.int (it f (k + (b - k) % (m - k)) z + (((b - k) / (m - k) : Nat) : Int) * (c * (w.length : Int))))
      rw [far_eq per hk hc hmb]
      exact h
end
end BW

set_option Elab.async false
set_option linter.all false
set_option maxRecDepth 100000
set_option maxHeartbeats 4000000
namespace BW
open PySem PySem.Spec PyProof.Rows L2
local macro_rules | `(tactic| walk_at "wd") => `(tactic| (repeat (first
  | with_reducible refine ws_seq ?_
  | with_reducible refine ws_ret ?_
  | with_reducible refine ws_set ?_
  | with_reducible refine ws_par ?_
  | with_reducible refine ws_next ?_
  | with_reducible refine we_lenM (by with_unfolding_all rfl) ?_
  | with_reducible refine we_tupM (by with_unfolding_all rfl) ?_
  | with_reducible refine we_ixM (by with_unfolding_all rfl) ?_
  | with_reducible refine we_var (by with_unfolding_all rfl) ?_
  | with_reducible refine we_int ?_
  | with_reducible refine we_bl ?_
  | with_reducible refine we_str ?_
  | with_reducible refine we_non ?_
  | with_reducible refine wa_cons ?_
  | with_reducible refine wa_nil ?_
  | with_reducible refine we_tup ?_
  | with_reducible refine we_lst ?_
  | with_reducible refine we_call ?_
  | with_reducible refine we_op2 rd_i0 ?_
  | with_reducible refine we_op2 rd_i ?_
  | with_reducible refine we_op2 rd_ixT ?_
  | with_reducible refine we_op2 rd_ixL ?_
  | with_reducible refine we_op2 rd_cat ?_
  | with_reducible refine we_neg ?_
  | with_reducible refine we_cb cd_len ?_
  | with_reducible refine we_cb cd_list ?_
  | with_reducible refine we_cb cd_tuple ?_
  | with_reducible refine we_cb cd_all ?_
  | with_reducible refine we_cb cd_divmod ?_
  | with_reducible refine we_isi (by decide) ?_
  | with_reducible refine we_isi2 (by decide) (by decide) ?_
  | with_reducible refine we_if ?_
  | with_reducible refine ws_if ?_
  | with_reducible refine wt_b ?_
  | with_reducible refine wt_test ?_
  | with_reducible refine wt_not ?_
  | with_reducible refine wt_or ?_
  | with_reducible refine wt_and ?_
  | with_reducible refine we_notV ?_
  | with_reducible refine we_andV ?_
  | with_reducible refine we_orV ?_
  | with_reducible refine we_back ?_
  | with_reducible refine wo_none ?_
  | with_reducible refine wo_some ?_
  | with_reducible refine ⟨_, _, rfl, rfl, rfl, ?_⟩
  | with_reducible refine ⟨by with_unfolding_all rfl, ?_⟩
  | refine ⟨_, rfl, ?_⟩
  | with_reducible refine ⟨_, _, rfl, ?_⟩
  | refine ⟨_, _, rfl, Or.inr rfl, ?_⟩
  | refine ⟨_, _, rfl, Or.inl rfl, ?_⟩
  | refine ⟨Nat.le_of_ble_eq_true (by with_unfolding_all rfl), ?_⟩
  )))
def cut (t : Addr) (H : Hp) : Hp := fun b => if b = t then none else H b
theorem cut_at (t : Addr) (H : Hp) : cut t H t = none := by unfold cut; rw [if_pos rfl]
theorem cut_ne {t b : Addr} {H : Hp} (h : b ≠ t) : cut t H b = H b := by unfold cut; rw [if_neg h]
theorem cut_some {t b : Addr} {H : Hp} (h : cut t H b ≠ none) : b ≠ t ∧ cut t H b = H b := by
  have hb : b ≠ t := fun e => by rw [e, cut_at] at h; exact h rfl
  exact ⟨hb, cut_ne hb⟩
theorem cut_tr (t : Addr) (G H : Hp) : Tr none G (cut t H) G H := ⟨Same.refl _, fun b o _ e => by
  have q := cut_some (t := t) (b := b) (H := H) (by rw [e]; intro z; cases z)
  rw [← q.2]
  exact e, fun _ _ => rfl, fun b e => by
  have q := cut_some e
  rw [← q.2]
  exact e⟩
theorem take_end {t : Addr} {G H G' H' : Hp} {a b c : Int} {n : Nat} (T : Tr none G (cut t H) G' H') (s : Same G' H') (g : G t = none) (g' : G' t = none) (h' : H' t = some (.lst [.int a, .int b, .int c])) (c0 : 0 ≤ c) (cn : c ≤ n) : Tr (some t) G H G' H' ∧ Wk (some t) n G' H' := by
  refine ⟨⟨T.g, fun x o hx e => ?_, fun x e => ?_, fun x e => ?_⟩, s, fun u e => ?_⟩
  · have hx' : x ≠ t := fun z => hx (by rw [z])
    exact T.k x o (by simp) (by rw [cut_ne hx']; exact e)
  · by_cases hx : x = t
    · rw [hx, g, g']
    · exact T.f x (by rw [cut_ne hx]; exact e)
  · by_cases hx : x = t
    · rw [hx, h']
      intro z
      cases z
    · exact T.n x (by rw [cut_ne hx]; exact e)
  · cases e
    exact ⟨g', a, b, c, h', c0, cn⟩
theorem seq_ifn {tt : TT} {t u : TS} {D : Ends} {σ : Sg} {H : Hp} (h : tt σ H fun b H1 => if b = true then t { D with nx := u D } σ H1 else u D σ H1) : tSeq (tIfS tt t tNext) u D σ H := h
abbrev tinD (a b c : Int) : List PyData := [.int a, .int b, .int c]
theorem tin_ml {t : Addr} {B G H : Hp} {a b c : Int} (q : SlOk none B G H (.ml (tinD a b c)) (some (.ref t))) : H t = some (.lst [.int a, .int b, .int c]) ∧ G t = none := by
  obtain ⟨D, us, e, hD, gD, _, _, ka⟩ := q
  cases e
  have e1 := (DtAll.ints (ns := [a, b, c])).mp ka
  rw [e1] at hD
  exact ⟨hD, gD⟩
/-- the draws at t, in slot 0, as a list of the def's own -/
structure TinSt (t : Addr) (G0 B G H : Hp) (σ : Sg) (L : List PyData) (l : List Sl) : Prop where
  st : StD none B G H σ (.ml L :: l)
  at0 : σ[0]? = some (some (.ref t))
  T : Tr none G0 B G H
  w : Wk none 0 G H
section
variable {t : Addr} {G0 B G H : Hp} {σ : Sg} {L : List PyData} {l : List Sl} {te : TE} {u : TS} {D : Ends} {d : PyData}
theorem TinSt.step (S : TinSt t G0 B G H σ L l) {G' H' : Hp} {n : Nat} (t1 : Tr none G H G' H') (w1 : Wk none n G' H') : TinSt t G0 B G' H' σ L l := ⟨S.st.step t1, S.at0, S.T.trans t1, w1.pure⟩
theorem TinSt.asg (S : TinSt t G0 B G H σ L l) {i : Nat} (hE : WE none te (.ml L :: l) 0 (fun e _ => e = d)) (k : ∀ σ' G' H', TinSt t G0 B G' H' σ' L (l.set i (.d d)) → u D σ' H') : tSeq (tAsg te (gName (i + 1))) u D σ H := by
  refine seq_asg (hE B σ G H _ S.st S.w fun v d1 n1 G1 H1 e1 t1 w1 x1 => ?_)
  subst e1
  refine k _ G1 H1 ⟨(S.st.step t1).setD x1, ?_, S.T.trans t1, w1.pure⟩
  rw [List.getElem?_set_ne (by omega)]
  exact S.at0
theorem TinSt.put (S : TinSt t G0 B G H σ L l) {k : Int} {j : Nat} (hE : WE none te (.ml L :: l) 0 (fun e _ => e = d)) (ho : onlyML (.ml L :: l) 0 = true) (hj : ixN L.length k = some j) (q : ∀ G' H', TinSt t G0 B G' H' σ (L.set j d) l → u D σ H') : tSeq (tAsg te (gSub (tVar 0) (tC (.int k)) rSetL)) u D σ H := by
  have main : te σ H fun v H1 => tVar 0 σ H1 fun o H2 => tC (.int k) σ H2 fun i H3 => rSetL o i v H3 fun H4 => u D σ H4 := by
    refine hE B σ G H _ S.st S.w fun v d1 n1 G1 H1 e1 t1 w1 x1 => ?_
    subst e1
    have st1 := S.st.step t1
    obtain ⟨A, us, e, hA, gA, bA, hm, ka⟩ := st1.2 0 _ _ rfl S.at0
    cases e
    refine ⟨.ref t, S.at0, t, us, k, j, rfl, rfl, hA, by rw [ka.length]; exact hj, ?_⟩
    exact q G1 _ ⟨st1.updL rfl ho S.at0 hA gA bA hm (DtAll.set ka x1), S.at0, (S.T.trans t1).put bA, (w1.put gA hm).pure⟩
  exact main
end
section
variable {P : Program} {w : World} {K : PySem.W.Frag} {mg : Str → Option Value} {base : Heap}
def R_take (ds : List PyData) (Φ : PyData → Prop) : Prop := ∃ b : Int, ds = [.int b] ∧ 0 < b ∧ b < 1073741824 ∧ ∀ r : Int, 0 ≤ r → r < b → Φ (.int r)
theorem dn_take (T : Txt K mg) : Dn P w K mg base CX0 "_law_take" 1 ["_law_tin", "_law_below_so"] (spT 1 1 R_take) := by
  refine Dn.of T.f__law_take (fun f fd F => F.ok sc__law_take (fun vs H Q E h => spT_len h) (fun cdv A outer s H vs Q E hr h => ⟨_, (pss_cons (ps_if (pt_cmpR op_gt (pe_ix (ixL_K (K := K)) (pv 0) pe_int (fun _ _ => rfl)) pe_int (nomark _)) (pss_cons (ps_set (i := 5) sc__law_take.nd rfl (Or.inl rfl) (pe_op op_mod (pe_callTy call_int1 (by rfl) T.b_int (by decide +kernel) (pa_cons (pe_ix (ixL_K (K := K)) (pv 0) pe_int (fun _ _ => rfl)) pa_nil)) (pv 1))) (pss_cons (ps_asg (pe_op op_fdiv (pe_ix (ixL_K (K := K)) (pv 0) pe_int (fun _ _ => rfl)) (pv 1)) (pg_sub (pv 0) pe_int set_list)) (pss_one (ps_ret (pv 5))))) pss_nil) (pss_cons (ps_asg (pe_op op_add (pe_ix (ixL_K (K := K)) (pv 0) pe_int (fun _ _ => rfl)) pe_int) (pg_sub (pv 0) pe_int set_list)) (pss_cons (ps_set (i := 2) sc__law_take.nd rfl (Or.inl rfl) (pe_op op_mod (pe_callTy call_int1 (by rfl) T.b_int (by decide +kernel) (pa_cons (pe_op op_mul (pe_op op_add (pe_ix (ixL_K (K := K)) (pv 0) pe_int (fun _ _ => rfl)) (pe_op op_mul pe_int (pe_ix (ixL_K (K := K)) (pv 0) pe_int (fun _ _ => rfl)))) (pe_op op_add pe_int (pe_ix (ixL_K (K := K)) (pv 0) pe_int (fun _ _ => rfl)))) pa_nil)) pe_int)) (pss_cons (ps_set (i := 3) sc__law_take.nd rfl (Or.inl rfl) (pe_op op_add (pe_op op_mod (pe_callTy call_int1 (by rfl) T.b_int (by decide +kernel) (pa_cons (pv 2) pa_nil)) pe_int) pe_int)) (pss_cons (ps_set (i := 4) sc__law_take.nd rfl (Or.inl rfl) (pe_op op_mod (pe_callTy call_int1 (by rfl) T.b_int (by decide +kernel) (pa_cons (pe_op op_mul (pe_op op_add (pe_op op_add (pv 2) (pe_ix (ixL_K (K := K)) (pv 0) pe_int (fun _ _ => rfl))) (pe_op op_fdiv (pe_ix (ixL_K (K := K)) (pv 0) pe_int (fun _ _ => rfl)) pe_int)) (pv 3)) pa_nil)) pe_int)) (pss_one (ps_ret (pe_op op_mod (pe_callTy call_int1 (by rfl) T.b_int (by decide +kernel) (pa_cons (pe_op op_fdiv (pe_op op_mod (pe_callTy call_int1 (by rfl) T.b_int (by decide +kernel) (pa_cons (pe_op op_add (pe_op op_mul (pv 4) pe_int) (pv 2)) pa_nil)) pe_int) pe_int) pa_nil)) (pv 1))))))))), ?_⟩)) (fun f fd F => F.binds fun _ _ _ _ _ _ us hl => match us, hl with | [_, _], _ => rfl)
  obtain ⟨t, us, G, ds, n, Φ, rfl, _, wk, hn, x, ⟨b, rfl, hb0, hb1, hΦ⟩, q⟩ := h
  obtain ⟨gt, i0, i1, i2, ht, hc0, hcn⟩ := wk.t t rfl
  obtain ⟨vb, rfl, xb⟩ := x.v1
  rw [dt_int.mp xb]
  have st0 : StD none (cut t H) G H (L2.start n__law_take [.ref t, .int b]) [.ml (tinD i0 i1 i2), .d (.int b), .un, .un, .un, .un] := by
    refine ⟨rfl, fun i s o p r => ?_⟩
    match i, p, r with
    | 0, p, r =>
      cases p
      cases r
      exact ⟨t, _, rfl, ht, gt, cut_at t H, by simp, (DtAll.ints (ns := [i0, i1, i2])).mpr rfl⟩
    | 1, p, r =>
      cases p
      cases r
      exact ⟨_, rfl, dt_int.mpr rfl⟩
    | 2, p, r => cases p; trivial
    | 3, p, r => cases p; trivial
    | 4, p, r => cases p; trivial
    | 5, p, r => cases p; trivial
    | k + 6, p, r => cases p
  have S0 : TinSt t G (cut t H) G H (L2.start n__law_take [.ref t, .int b]) (tinD i0 i1 i2) [.d (.int b), .un, .un, .un, .un] := ⟨st0, rfl, cut_tr t G H, ⟨wk.s, fun _ e => nomatch e⟩⟩
  have ends : ∀ {v : V} {r : Int} {G' H' : Hp} {σ : Sg} {j0 j1 j2 : Int} {l : List Sl}, TinSt t G (cut t H) G' H' σ (tinD j0 j1 j2) l → 0 ≤ j2 → j2 ≤ ((n + 1 : Nat) : Int) → 0 ≤ r → r < b → Dt G' (.int r) v → Q v H' := by
    intro v r G' H' σ j0 j1 j2 l S a1 a2 r0 r1 xv
    obtain ⟨h', g'⟩ := tin_ml (S.st.2 0 _ _ rfl S.at0)
    obtain ⟨T2, w2⟩ := take_end S.T S.w.s gt g' h' a1 a2
    exact q v _ G' H' (hΦ r r0 r1) T2 w2 xv
  -- if tin[0] > 0
  have h1 : WT none (tTest (tOp (rI0 fun i j => .bl (decide (j < i))) (tOp (rIxL K) (tVar 0) (tC (.int 0))) (tC (.int 0)))) [.ml (tinD i0 i1 i2), .d (.int b), .un, .un, .un, .un] 0 (fun c _ => c = decide (0 < i0)) := by
    walk_at "wd"
    refine ⟨_, _, rfl, rfl, ?_⟩
    walk_at "wd"
    rfl
  refine seq_ifn (h1 (cut t H) _ G H _ S0.st S0.w fun c n1 G1 H1 e1 t1 w1 => ?_)
  subst e1
  have S1 := S0.step t1 w1
  by_cases hpos : 0 < i0
  · rw [decide_eq_true hpos]
    refine iteT ?_
    refine S1.asg (i := 4) (d := .int (i0 % b)) ?_ fun σ2 G2 H2 S2 => ?_
    · walk_at "wd"
      refine we_cb cd_int ?_
      walk_at "wd"
      refine ⟨_, _, rfl, rfl, ?_⟩
      walk_at "wd"
      refine .inl ⟨_, rfl, ?_⟩
      walk_at "wd"
      exact ⟨_, _, rfl, rfl, hb0, rfl, rfl⟩
    refine S2.put (k := 0) (j := 0) (d := .int (i0 / b)) ?_ rfl rfl fun G3 H3 S3 => ?_
    · walk_at "wd"
      refine ⟨_, _, rfl, rfl, ?_⟩
      walk_at "wd"
      exact ⟨_, _, rfl, rfl, ⟨hb0, hb1⟩, rfl, rfl⟩
    have h5 : WE none (tVar 5) [.ml (tinD (i0 / b) i1 i2), .d (.int b), .un, .un, .un, .d (.int (i0 % b))] 0 (fun d _ => d = .int (i0 % b)) := by
      walk_at "wd"
      rfl
    refine h5 (cut t H) _ G3 H3 _ S3.st S3.w fun v d n4 G4 H4 e4 t4 w4 x4 => ?_
    subst e4
    exact ends (S3.step t4 w4) hc0 (by omega) (Int.emod_nonneg _ (by omega)) (Int.emod_lt_of_pos _ hb0) x4
  · rw [decide_eq_false hpos]
    refine iteF ?_
    -- the small draw
    have e60 : (2 : Int) ^ 60 = 1152921504606846976 := by decide
    have hn' : ((n : Nat) : Int) ≤ 1152921504606846976 := by
      have e61 : (2 : Nat) ^ 60 = 1152921504606846976 := by decide
      omega
    refine S1.put (k := 2) (j := 2) (d := .int (i2 + 1)) ?_ rfl rfl fun G3 H3 S3 => ?_
    · walk_at "wd"
      refine ⟨_, _, rfl, rfl, ?_⟩
      walk_at "wd"
      rfl
    refine S3.asg (i := 1) (d := .int ((i1 + 48271 * (i2 + 1)) * (39373 + (i2 + 1)) % 2147483647)) ?_ fun σ4 G4 H4 S4 => ?_
    · walk_at "wd"
      refine we_cb cd_int ?_
      walk_at "wd"
      refine ⟨_, _, rfl, rfl, ?_⟩
      walk_at "wd"
      refine ⟨_, _, rfl, rfl, ?_⟩
      walk_at "wd"
      refine ⟨_, _, rfl, rfl, .inl ⟨by decide, by decide⟩, rfl, ?_⟩
      walk_at "wd"
      refine ⟨_, _, rfl, rfl, ?_⟩
      walk_at "wd"
      refine ⟨_, _, rfl, rfl, .inr ⟨by omega, by omega⟩, rfl, ?_⟩
      walk_at "wd"
      refine .inl ⟨_, rfl, ?_⟩
      walk_at "wd"
      exact ⟨_, _, rfl, rfl, by decide, rfl, rfl⟩
    generalize (i1 + 48271 * (i2 + 1)) * (39373 + (i2 + 1)) % 2147483647 = once at *
    have w0 := Int.emod_nonneg once (show (40009 : Int) ≠ 0 by decide)
    have w1' := Int.emod_lt_of_pos once (show (0 : Int) < 40009 by decide)
    refine S4.asg (i := 2) (d := .int (once % 40009 + 7)) ?_ fun σ5 G5 H5 S5 => ?_
    · walk_at "wd"
      refine we_cb cd_int ?_
      walk_at "wd"
      refine .inl ⟨_, rfl, ?_⟩
      walk_at "wd"
      refine ⟨_, _, rfl, rfl, by decide, rfl, ?_⟩
      walk_at "wd"
      rfl
    refine S5.asg (i := 3) (d := .int ((once + (i2 + 1) + i1 / 1000003) * (once % 40009 + 7) % 2147483629)) ?_ fun σ6 G6 H6 S6 => ?_
    · walk_at "wd"
      refine we_cb cd_int ?_
      walk_at "wd"
      refine ⟨_, _, rfl, rfl, ?_⟩
      walk_at "wd"
      refine ⟨_, _, rfl, rfl, ?_⟩
      walk_at "wd"
      refine ⟨_, _, rfl, rfl, ⟨by decide, by decide⟩, rfl, ?_⟩
      walk_at "wd"
      refine ⟨_, _, rfl, rfl, .inr ⟨by omega, by omega⟩, rfl, ?_⟩
      walk_at "wd"
      refine .inl ⟨_, rfl, ?_⟩
      walk_at "wd"
      exact ⟨_, _, rfl, rfl, by decide, rfl, rfl⟩
    generalize once % 40009 + 7 = wide at *
    have t0 := Int.emod_nonneg ((once + (i2 + 1) + i1 / 1000003) * wide) (show (2147483629 : Int) ≠ 0 by decide)
    have t1' := Int.emod_lt_of_pos ((once + (i2 + 1) + i1 / 1000003) * wide) (show (0 : Int) < 2147483629 by decide)
    generalize (once + (i2 + 1) + i1 / 1000003) * wide % 2147483629 = twice at *
    have h5 : WE none (tOp (rI (fun x j => 0 < j) fun i j => V.int (i % j)) (tCB (fun xs H Q => (∃ i, xs = [V.int i] ∧ Q (V.int i) H) ∨ ∃ k, xs = [V.bl k] ∧ Q (V.int (if k then 1 else 0)) H) (tCons (tOp (rI CDiv fun i j => V.int (i / j)) (tOp (rI (fun x j => 0 < j) fun i j => V.int (i % j))
        (tCB (fun xs H Q => (∃ i, xs = [V.int i] ∧ Q (V.int i) H) ∨ ∃ k, xs = [V.bl k] ∧ Q (V.int (if k then 1 else 0)) H) (tCons (tOp (rI0 fun i j => V.int (i + j)) (tOp (rI CMul fun i j => V.int (i * j)) (tVar 4) (tC (.int 48271))) (tVar 2)) tNil)) (tC (.int 2147483587))) (tC (.int 64))) tNil)) (tVar 1))
        [.ml (tinD i0 i1 (i2 + 1)), .d (.int b), .d (.int once), .d (.int wide), .d (.int twice), .un] 0 (fun d _ => d = .int ((twice * 48271 + once) % 2147483587 / 64 % b)) := by
      walk_at "wd"
      refine we_cb cd_int ?_
      walk_at "wd"
      refine we_cb cd_int ?_
      walk_at "wd"
      refine ⟨_, _, rfl, rfl, .inr ⟨by decide, by decide⟩, rfl, ?_⟩
      walk_at "wd"
      refine .inl ⟨_, rfl, ?_⟩
      walk_at "wd"
      refine ⟨_, _, rfl, rfl, by decide, rfl, ?_⟩
      walk_at "wd"
      refine ⟨_, _, rfl, rfl, ⟨by decide, by decide⟩, rfl, ?_⟩
      walk_at "wd"
      refine .inl ⟨_, rfl, ?_⟩
      walk_at "wd"
      exact ⟨_, _, rfl, rfl, hb0, rfl, rfl⟩
    refine h5 (cut t H) _ G6 H6 _ S6.st S6.w fun v d n7 G7 H7 e7 t7 w7 x7 => ?_
    subst e7
    exact ends (S6.step t7 w7) (by omega) (by omega) (Int.emod_nonneg _ (by omega)) (Int.emod_lt_of_pos _ hb0) x7
def R_of (ds : List PyData) (Φ : PyData → Prop) : Prop := ∃ gs : List Int, ds = [dL gs] ∧ gs ≠ [] ∧ gs.length ≤ 1000 ∧ ∀ r ∈ gs, Φ (.int r)
theorem dn_of (T : Txt K mg) : Dn P w K mg base CX0 "_law_of" 2 ["_law_tin", "_law_goods_so"] (spT 1 1 R_of) := by
  have D__law_take := dn_take (P := P) (w := w) (base := base) T
  refine Dn.of T.f__law_of (fun f fd F => F.ok sc__law_of (fun vs H Q E h => spT_len h) (fun cdv A outer s H vs Q E hr h => ⟨_, (pss_one (ps_ret (pe_ix (ixL_K (K := K)) (pv 1) (pe_dn D__law_take (hr.mono (by omega)) (pa_cons (pv 0) (pa_cons (pe_callB (len_K (K := K)) (by rfl) T.b_len PySem.boot_len (pa_cons (pv 1) pa_nil)) pa_nil))) (fun _ _ => rfl)))), fn_T h ?_⟩)) (fun f fd F => F.binds fun _ _ _ _ _ _ us hl => match us, hl with | [_, _], _ => rfl)
  intro a ds n Φ _ hn hR
  obtain ⟨gs, rfl, hne, hl, h⟩ := hR
  have hp := List.length_pos_iff.mpr hne
  walk_at "wd"
  refine we_callT rfl ?_
  walk_at "wd"
  rw [List.length_map]
  walk_at "wd"
  refine ⟨hn, _, rfl, by omega, by omega, fun r r0 r1 => ?_⟩
  walk_at "wd"
  refine ⟨_, _, _, rfl, rfl, at_ints r0 r1, ?_, Nat.le_refl _⟩
  refine h _ ?_
  rw [List.getD_eq_getElem?_getD, List.getElem?_eq_getElem (show r.toNat < gs.length by omega)]
  exact List.getElem_mem _
end
end BW

set_option Elab.async false
set_option linter.all false
set_option maxRecDepth 100000
set_option maxHeartbeats 4000000
namespace BW
open PySem PySem.Spec PyProof.Rows L2
local macro_rules | `(tactic| walk_at "wd") => `(tactic| (repeat (first
  | with_reducible refine ws_seq ?_
  | with_reducible refine ws_ret ?_
  | with_reducible refine ws_set ?_
  | with_reducible refine ws_par ?_
  | with_reducible refine ws_next ?_
  | with_reducible refine we_lenM (by with_unfolding_all rfl) ?_
  | with_reducible refine we_tupM (by with_unfolding_all rfl) ?_
  | with_reducible refine we_ixM (by with_unfolding_all rfl) ?_
  | with_reducible refine we_var (by with_unfolding_all rfl) ?_
  | with_reducible refine we_int ?_
  | with_reducible refine we_bl ?_
  | with_reducible refine we_str ?_
  | with_reducible refine we_non ?_
  | with_reducible refine wa_cons ?_
  | with_reducible refine wa_nil ?_
  | with_reducible refine we_tup ?_
  | with_reducible refine we_lst ?_
  | with_reducible refine we_call ?_
  | with_reducible refine we_op2 rd_i0 ?_
  | with_reducible refine we_op2 rd_i ?_
  | with_reducible refine we_op2 rd_ixT ?_
  | with_reducible refine we_op2 rd_ixL ?_
  | with_reducible refine we_op2 rd_cat ?_
  | with_reducible refine we_neg ?_
  | with_reducible refine we_cb cd_len ?_
  | with_reducible refine we_cb cd_list ?_
  | with_reducible refine we_cb cd_tuple ?_
  | with_reducible refine we_cb cd_all ?_
  | with_reducible refine we_cb cd_divmod ?_
  | with_reducible refine we_isi (by decide) ?_
  | with_reducible refine we_isi2 (by decide) (by decide) ?_
  | with_reducible refine we_if ?_
  | with_reducible refine ws_if ?_
  | with_reducible refine wt_b ?_
  | with_reducible refine wt_test ?_
  | with_reducible refine wt_not ?_
  | with_reducible refine wt_or ?_
  | with_reducible refine wt_and ?_
  | with_reducible refine we_notV ?_
  | with_reducible refine we_andV ?_
  | with_reducible refine we_orV ?_
  | with_reducible refine we_back ?_
  | with_reducible refine wo_none ?_
  | with_reducible refine wo_some ?_
  | with_reducible refine ⟨_, _, rfl, rfl, rfl, ?_⟩
  | with_reducible refine ⟨by with_unfolding_all rfl, ?_⟩
  | refine ⟨_, rfl, ?_⟩
  | with_reducible refine ⟨_, _, rfl, ?_⟩
  | refine ⟨_, _, rfl, Or.inr rfl, ?_⟩
  | refine ⟨_, _, rfl, Or.inl rfl, ?_⟩
  | refine ⟨Nat.le_of_ble_eq_true (by with_unfolding_all rfl), ?_⟩
  )))
section
variable {m : Option Addr} {l : List Sl} {n : Nat} {Φ : PyP}
theorem cd_max : CD m (fun xs H Q => ∃ i j, xs = [.int i, .int j] ∧ Q (.int (if j > i then j else i)) H) fun Φ ds n => ∃ i j, ds = [.int i, .int j] ∧ Φ (.int (if j > i then j else i)) n := by
  rintro Φ vs ds n G H Q x w ⟨i, j, rfl, h⟩ q
  obtain ⟨v, u, rfl, k1, k2⟩ := x.v2
  rw [dt_int.mp k1, dt_int.mp k2]
  exact ⟨i, j, rfl, q.here w h (dt_int.mpr rfl)⟩
theorem cd_sorted {K : PySem.W.Frag} : CD m (rSorted K) fun Φ ds n => ∃ ns : List Int, ds = [.list (ns.map PyData.int)] ∧ ns.length < 64 ∧ ∀ ns' : List Int, ns'.Perm ns → ns'.Pairwise (· ≤ ·) → Φ (dL ns') n := by
  rintro Φ vs ds n G H Q x w ⟨ns, rfl, hl, h⟩ q
  obtain ⟨v, rfl, k⟩ := x.v1
  obtain ⟨a, us, rfl, ga, ka⟩ := dt_list.mp k
  rw [DtAll.ints.mp ka] at ga
  refine ⟨a, ns, rfl, .inl (.inl (w.s _ _ ga)), hl, ?_⟩
  intro ns' p h1 h2 hp
  exact q.newD w hp (h ns' h1 h2) (dt_list.mpr ⟨p, _, rfl, upd_same, DtAll.ints.mpr rfl⟩)
end
theorem wi_rng2N {m : Option Addr} {l : List Sl} {n : Nat} {ta : TA} {P : List PyData → Nat → Prop} (h : WA m ta l n fun ds n' => ∃ i j : Nat, (i ≤ 1000 ∧ j ≤ 1000) ∧ ds = [.int (i : Int), .int (j : Int)] ∧ P ((List.range (j - i)).map fun (k : Nat) => PyData.int ((i + k : Nat) : Int)) n') : WI m (iRng2 ta) l n P :=
  wi_rng2 fun B σ G H Q hs hw q => h B σ G H Q hs hw fun vs ds n' G' H' ⟨i, j, ⟨hi, hj⟩, e, h'⟩ t w x => q vs ds n' G' H' ⟨(i : Int), (j : Int), e, ⟨by omega, by omega, by omega, by omega⟩, by
    rw [show ((j : Int) - (i : Int)).toNat = j - i by omega]
    have e2 : (fun (k : Nat) => PyData.int ((i : Int) + (k : Int))) = fun (k : Nat) => PyData.int ((i + k : Nat) : Int) := by
      funext k
      rw [Int.natCast_add]
    rw [e2]
    exact h'⟩ t w x
theorem ints_of {p : Int → Prop} : ∀ {out : List PyData}, (∀ y ∈ out, ∃ r, y = .int r ∧ p r) → ∃ ns : List Int, out = ns.map PyData.int ∧ ∀ r ∈ ns, p r
  | [], _ => ⟨[], rfl, fun _ h => by cases h⟩
  | y :: out, h => by
    obtain ⟨r, rfl, hr⟩ := h y List.mem_cons_self
    obtain ⟨ns, e, hn⟩ := ints_of (out := out) fun z hz => h z (List.mem_cons_of_mem _ hz)
    refine ⟨r :: ns, by rw [e]; rfl, fun z hz => ?_⟩
    rcases List.mem_cons.mp hz with q | q
    · rw [q]; exact hr
    · exact hn z q
section
variable {P : Program} {w : World} {K : PySem.W.Frag} {mg : Str → Option Value} {base : Heap}
/-- rising up to place b -/
def UpTo (L : List Int) (b : Nat) : Prop := ∀ i : Nat, i + 1 < b → L.getD i 0 ≤ L.getD (i + 1) 0
theorem getD_set {L : List Int} {b i : Nat} {v : Int} (hb : b < L.length) : (L.set b v).getD i 0 = if i = b then v else L.getD i 0 := by
  rw [List.getD_eq_getElem?_getD, List.getD_eq_getElem?_getD]
  by_cases e : i = b
  · subst e
    rw [if_pos rfl, List.getElem?_set_self hb]
    rfl
  · rw [if_neg e, List.getElem?_set_ne (Ne.symm e)]
theorem upTo_set {L : List Int} {b : Nat} (hb : 0 < b) (hl : b < L.length) (h : UpTo L b) : UpTo (L.set b (if L.getD (b - 1) 0 > L.getD b 0 then L.getD (b - 1) 0 else L.getD b 0)) (b + 1) := by
  intro i hi
  rw [getD_set hl, getD_set hl, if_neg (by omega)]
  by_cases e : i + 1 = b
  · rw [if_pos e]
    have e2 : i = b - 1 := by omega
    rw [e2]
    split <;> omega
  · rw [if_neg e]
    exact h i (by omega)
theorem upTo_first (N : Nat) (start : Int) {j : Nat} (hj : j < N) : UpTo ((shf N start).set j (start + (j : Int) + 1)) (j + 1) := by
  intro i hi
  have hl : j < (shf N start).length := by rw [shf_length]; exact hj
  rw [getD_set hl, getD_set hl, if_neg (by omega), shf_getD (by omega)]
  by_cases e : i + 1 = j
  · rw [if_pos e]
    omega
  · rw [if_neg e, shf_getD (by omega)]
    omega
theorem within_set {L : List Int} {b : Nat} {v lo hi : Int} (h : ∀ x ∈ L, lo ≤ x ∧ x ≤ hi) (hv : lo ≤ v ∧ v ≤ hi) : ∀ x ∈ L.set b v, lo ≤ x ∧ x ≤ hi := by
  intro x hx
  rcases List.mem_or_eq_of_mem_set hx with q | q
  · exact h x q
  · rw [q]; exact hv
theorem within_get {L : List Int} {i : Nat} {lo hi : Int} (h : ∀ x ∈ L, lo ≤ x ∧ x ≤ hi) (hi' : i < L.length) : lo ≤ L.getD i 0 ∧ L.getD i 0 ≤ hi := by
  rw [List.getD_eq_getElem?_getD, List.getElem?_eq_getElem hi']
  exact h _ (List.getElem_mem hi')
theorem within_shf (N : Nat) (start : Int) : ∀ x ∈ shf N start, start ≤ x ∧ x ≤ start + (N : Int) := by
  intro x hx
  obtain ⟨i, hi, rfl⟩ := List.mem_map.mp hx
  have := List.mem_range.mp hi
  omega
theorem at_intsN {L : List Int} {i : Nat} (h : i < L.length) : L2.atI (L.map PyData.int) (i : Int) = some (.int (L.getD i 0)) := by
  have := at_ints (w := L) (z := (i : Int)) (by omega) (by omega)
  rw [Int.toNat_natCast] at this
  exact this
/-- a drawn WHEEL of N places -/
structure Drawn (N : Nat) (w : List Int) : Prop where
  wb : isWb w = true
  len : w.length = N
  small : ∀ x ∈ w, -1000 ≤ x ∧ x ≤ 1000
def R_disk (ds : List PyData) (Φ : PyData → Prop) : Prop := ∃ N : Nat, ds = [.int (N : Int)] ∧ 1 ≤ N ∧ N ≤ 9 ∧ ∀ w, Drawn N w → Φ (dT w)
theorem dn_disk (T : Txt K mg) : Dn P w K mg base CX0 "_law_disk" 2 ["_law_tin", "_law_ring_so"] (spT 12 1 R_disk) := by
  have D__law_take := dn_take (P := P) (w := w) (base := base) T
  have D__law_shift := dn_lawshift (P := P) (w := w) (base := base) T
  refine Dn.of T.f__law_disk (fun f fd F => F.ok sc__law_disk (fun vs H Q E h => spT_len h) (fun cdv A outer s H vs Q E hr h => ⟨_, (pss_cons (ps_asg (pe_tup (pa_cons (pe_op op_sub (pe_dn D__law_take (hr.mono (by omega)) (pa_cons (pv 0) (pa_cons (pe_op op_mul pe_int (pv 1)) pa_nil))) (pv 1)) (pa_cons (pe_dn D__law_take (hr.mono (by omega)) (pa_cons (pv 0) (pa_cons pe_int pa_nil))) pa_nil))) (pg_tup rfl (pgs_cons (pg_name (i := 3) sc__law_disk.nd rfl (Or.inr rfl)) (pgs_cons (pg_name (i := 4) sc__law_disk.nd rfl (Or.inl rfl)) pgs_nil)))) (pss_cons (ps_if (pt_cmpR op_eq (pv 4) pe_int (nomark _)) (pss_one (ps_ret (pe_dn D__law_shift (hr.mono (by omega)) (pa_cons (pv 1) (pa_cons (pv 3) pa_nil))))) pss_nil) (pss_cons (ps_if (pt_cmpR op_eq (pv 4) pe_int (nomark _)) (pss_cons (ps_set (i := 5) sc__law_disk.nd rfl (Or.inr rfl) (pe_callTy (list_K (K := K)) (by rfl) T.b_list (by decide +kernel) (pa_cons (pe_dn D__law_shift (hr.mono (by omega)) (pa_cons (pv 1) (pa_cons (pv 3) pa_nil))) pa_nil))) (pss_cons (ps_set (i := 6) sc__law_disk.nd rfl (Or.inl rfl) (pe_dn D__law_take (hr.mono (by omega)) (pa_cons (pv 0) (pa_cons (pv 1) pa_nil)))) (pss_cons (ps_asg (pe_op op_add (pe_ix (ixL_K (K := K)) (pv 5) (pv 6) (fun _ _ => rfl)) pe_int) (pg_sub (pv 5) (pv 6) set_list)) (pss_cons (ps_for PassesOwn.never rfl (pi_range2 (by rfl) T.b_range (pa_cons (pe_op op_add (pv 6) pe_int) (pa_cons (pv 1) pa_nil))) (pg_name (i := 7) sc__law_disk.nd rfl (Or.inl rfl)) (pss_one (ps_asg (pe_callB (call_max2 rfl) (by rfl) T.b_max (by decide +kernel) (pa_cons (pe_ix (ixL_K (K := K)) (pv 5) (pv 7) (fun _ _ => rfl)) (pa_cons (pe_ix (ixL_K (K := K)) (pv 5) (pe_op op_sub (pv 7) pe_int) (fun _ _ => rfl)) pa_nil))) (pg_sub (pv 5) (pv 7) set_list)))) (pss_one (ps_ret (pe_callTy (tuple_K (K := K)) (by rfl) T.b_tuple (by decide +kernel) (pa_cons (pe_lc (own := [("_law_own", 8)]) (g := gName 8) (tt := tYes) rfl sc__law_disk.nd (piL_K (K := K) (pv 5)) (blkOk_by (N := n__law_disk) (sc := defScope s__law_disk) (by decide +kernel)) (fun _ _ _ _ _ => (pg_name (i := 8) sc__law_disk.nd rfl (Or.inl rfl))) (fun _ _ _ _ _ => pts_nil) (fun _ _ _ _ _ => (pe_callB (call_min2 rfl) (by rfl) T.b_min (by decide +kernel) (pa_cons (pv 8) (pa_cons (pe_op op_add (pe_ix (ixL_K (K := K)) (pv 5) pe_int (fun _ _ => rfl)) (pv 1)) pa_nil))))) pa_nil)))))))) pss_nil) (pss_cons (ps_set (i := 2) sc__law_disk.nd rfl (Or.inr rfl) (pe_ifExp (pt_cmpR op_gt (pv 4) pe_int (nomark _)) (pe_op op_add (pv 1) pe_int) (pe_op op_add pe_int (pe_dn D__law_take (hr.mono (by omega)) (pa_cons (pv 0) (pa_cons (pv 1) pa_nil)))))) (pss_one (ps_ret (pe_callTy (tuple_K (K := K)) (by rfl) T.b_tuple (by decide +kernel) (pa_cons (pe_callB (sorted_K (K := K)) (by rfl) T.b_sorted (by decide +kernel) (pa_cons (pe_lc (own := [("_law_lap", 9)]) (g := gName 9) (tt := tYes) rfl sc__law_disk.nd (pi_range1 (by rfl) T.b_range (pa_cons (pv 1) pa_nil)) (blkOk_by (N := n__law_disk) (sc := defScope s__law_disk) (by decide +kernel)) (fun _ _ _ _ _ => (pg_name (i := 9) sc__law_disk.nd rfl (Or.inl rfl))) (fun _ _ _ _ _ => pts_nil) (fun _ _ _ _ _ => (pe_op op_add (pv 3) (pe_dn D__law_take (hr.mono (by omega)) (pa_cons (pv 0) (pa_cons (pv 2) pa_nil)))))) pa_nil)) pa_nil)))))))), fn_T h ?_⟩)) (fun f fd F => F.binds fun _ _ _ _ _ _ us hl => match us, hl with | [_, _], _ => rfl)
  intro a ds n Φ _ hn hR
  obtain ⟨N, rfl, hN1, hN9, h⟩ := hR
  refine ws_seq (ws_asg (tg_pair (by decide)) ?_)
  walk_at "wd"
  refine we_callT rfl ?_
  walk_at "wd"
  refine ⟨_, _, rfl, rfl, .inl ⟨by decide, by decide⟩, rfl, ?_⟩
  walk_at "wd"
  refine ⟨by omega, _, rfl, by omega, by omega, fun r r0 r1 => ?_⟩
  walk_at "wd"
  refine we_callT rfl ?_
  walk_at "wd"
  refine ⟨by omega, _, rfl, by decide, by decide, fun kind k0 k1 => ?_⟩
  walk_at "wd"
  refine ⟨⟨_, _, rfl⟩, ?_⟩
  have hN1000 : (N : Int) ≤ 1000 := by omega
  generalize hst : r - (N : Int) = start at *
  walk_at "wd"
  refine we_op2 rd_eqI ?_
  walk_at "wd"
  refine ⟨_, _, rfl, rfl, ?_⟩
  walk_at "wd"
  refine ⟨fun e => ?_, fun e => ?_⟩
  · -- a SHIFT
    walk_at "wd"
    refine ⟨N, start, rfl, by omega, h _ ⟨(isWb_iff _).mpr (shf_isW (by omega) start), shf_length _ _, fun x hx => ?_⟩, by omega⟩
    obtain ⟨i, hi, rfl⟩ := List.mem_map.mp hx
    have := List.mem_range.mp hi
    omega
  · walk_at "wd"
    refine we_op2 rd_eqI ?_
    walk_at "wd"
    refine ⟨_, _, rfl, rfl, ?_⟩
    walk_at "wd"
    refine ⟨fun e1 => ?_, fun e1 => ?_⟩
    · -- one that slips once
      refine ws_seq (ws_newLof ?_)
      walk_at "wd"
      refine ⟨N, start, rfl, by omega, _, .inr rfl, ?_⟩
      walk_at "wd"
      refine we_callT rfl ?_
      walk_at "wd"
      refine ⟨by omega, _, rfl, by omega, by omega, fun kk q0 q1 => ?_⟩
      obtain ⟨j, rfl⟩ : ∃ j : Nat, kk = (j : Int) := ⟨kk.toNat, by omega⟩
      have hj : j < N := by omega
      have hs0 : (shf N start)[j]? = some (start + (j : Int)) := by simp [shf, hj]
      have hlen : ((shf N start).map PyData.int).length = N := by rw [List.length_map, shf_length]
      refine ws_seq (ws_setM rfl rfl ?_)
      walk_at "wd"
      refine ⟨_, _, rfl, atI_nat (j := j) (by rw [List.getElem?_map, hs0]; rfl), ?_⟩
      walk_at "wd"
      rw [hlen]
      refine ⟨_, j, rfl, by unfold ixN; rw [if_pos (by omega), if_pos (by omega)]; rfl, ?_⟩
      have e0 : ((shf N start).map PyData.int).set j (toD (V.int (start + (j : Int) + 1))) = ((shf N start).set j (start + (j : Int) + 1)).map PyData.int := by
        rw [List.map_set]
        rfl
      rw [e0]
      walk_at "wd"
      refine ws_for (tg_name 7) (wi_rng2N ?_)
      walk_at "wd"
      refine ⟨j + 1, N, ⟨by omega, by omega⟩, rfl, fun _ _ => trivial, ?_⟩
      refine fr_inv (fun t l n' => ∃ (L : List Int) (s7 : Sl), l = [.tin, .d (.int (N : Int)), .un, .d (.int start), .d (.int kind), .ml (L.map PyData.int), .d (.int (j : Int)), s7, .un, .un] ∧ plainS s7 = true ∧ L.length = N ∧ UpTo L (j + 1 + t) ∧ (∀ x ∈ L, start ≤ x ∧ x ≤ start + (N : Int)) ∧ n' = n + 1 + 1 + 1) ?_ ?_
        ⟨(shf N start).set j (start + (j : Int) + 1), .un, rfl, rfl, by rw [List.length_set, shf_length], upTo_first N start hj, within_set (within_shf N start) ⟨by omega, by omega⟩, rfl⟩
      · rintro t d l n' hd ⟨L, s7, rfl, hs7, hL, hup, hwi, rfl⟩
        rw [List.getElem?_map] at hd
        obtain ⟨t', ht', rfl⟩ := Option.map_eq_some_iff.mp hd
        obtain ⟨htl, htt⟩ := List.getElem?_eq_some_iff.mp ht'
        rw [List.length_range] at htl
        rw [List.getElem_range] at htt
        subst htt
        have hJ : j + 1 + t < L.length := by omega
        have e1 : ((j + 1 + t : Nat) : Int) - 1 = ((j + t : Nat) : Int) := by omega
        refine ws_setM rfl (by cases s7 <;> first | rfl | cases hs7) ?_
        refine we_cb cd_max ?_
        walk_at "wd"
        refine ⟨_, _, rfl, at_intsN hJ, ?_⟩
        walk_at "wd"
        rw [e1]
        refine ⟨_, _, rfl, at_intsN (by omega), ?_⟩
        walk_at "wd"
        rw [List.length_map, hL]
        refine ⟨_, j + 1 + t, rfl, by unfold ixN; rw [if_pos (by omega), if_pos (by omega)]; rfl, ?_⟩
        refine ⟨L.set (j + 1 + t) (if L.getD (j + t) 0 > L.getD (j + 1 + t) 0 then L.getD (j + t) 0 else L.getD (j + 1 + t) 0), .d (.int ((j + 1 + t : Nat) : Int)), ?_, rfl, by rw [List.length_set]; exact hL, ?_, within_set hwi ?_, rfl⟩
        · rw [List.map_set]
          rfl
        · have := upTo_set (by omega) hJ hup
          rw [show j + 1 + t - 1 = j + t by omega] at this
          exact this
        · have a1 := within_get hwi (show j + t < L.length by omega)
          have a2 := within_get hwi hJ
          split <;> omega
      · rintro l n' ⟨L, s7, rfl, hs7, hL, hup, hwi, rfl⟩
        rw [List.length_map, List.length_range] at hup
        rw [show j + 1 + (N - (j + 1)) = N by omega] at hup
        have hLn : L ≠ [] := by
          intro z
          rw [z] at hL
          simp at hL
          omega
        walk_at "wd"
        refine we_lc (tg_name 8) (wi_listM rfl ?_)
        refine ⟨by rw [List.length_map]; omega, fun _ _ => trivial, lc_map (g := fun d => match d with | .int x => PyData.int (if L.getD 0 0 + (N : Int) < x then L.getD 0 0 + (N : Int) else x) | _ => .none) (fun y hy n2 Φ2 h2 => ?_) ?_⟩
        · obtain ⟨x, _, rfl⟩ := List.mem_map.mp hy
          refine we_cb cd_min ?_
          walk_at "wd"
          refine ⟨_, _, rfl, at_intsN (i := 0) (by omega), ?_⟩
          walk_at "wd"
          exact h2
        · have e2 : (L.map PyData.int).map (fun d => match d with | .int x => PyData.int (if L.getD 0 0 + (N : Int) < x then L.getD 0 0 + (N : Int) else x) | _ => .none) = (L.map fun x => if L.getD 0 0 + (L.length : Int) < x then L.getD 0 0 + (L.length : Int) else x).map PyData.int := by
            rw [List.map_map, List.map_map, hL]
            rfl
          rw [e2]
          walk_at "wd"
          refine ⟨h _ ⟨(isWb_iff _).mpr (cut_isW hLn (by rw [hL]; exact hup)), by rw [List.length_map]; exact hL, fun x hx => ?_⟩, by omega⟩
          obtain ⟨y, hy, rfl⟩ := List.mem_map.mp hx
          have a1 := hwi y hy
          have a2 := within_get hwi (show 0 < L.length by omega)
          split <;> omega
    · -- one that slips more
      have fin : ∀ (W : Int) (n1 : Nat), 1 ≤ W → W ≤ (N : Int) + 1 → n1 ≤ n + 3 → WS (some a) (tRet (tCB (fun xs H Q => ∃ p ys, xs = [.ref p] ∧ ((SqL K H p ys ∧ ∀ l, H l = none → Q (.ref l) (upd H l (.tup ys))) ∨ (SqT K H p ys ∧ Q (.ref p) H)))
          (tCons (tCB (rSorted K) (tCons (tLc (iRng1 (tCons (tVar 1) tNil)) (gName 9) tYes (tOp (rI0 fun i j => V.int (i + j)) (tVar 3) (tCall (spT 1 1 R_take) [] E0 (tCons (tVar 0) (tCons (tVar 2) tNil)))) [9]) tNil)) tNil)))
          [.tin, .d (.int (N : Int)), .d (.int W), .d (.int start), .d (.int kind), .un, .un, .un, .un, .un] n1 (fun _ _ => False) (fun d n' => Φ d ∧ n' ≤ n + 12) := by
        intro W n1 hW1 hW2 hn1
        walk_at "wd"
        refine we_cb cd_sorted ?_
        walk_at "wd"
        refine we_lc (tg_name 9) (WI.t (wi_rngN ?_))
        walk_at "wd"
        refine ⟨by omega, by simpa using (show N ≤ 1000 by omega), fun _ _ => trivial, lc_any (P := fun y => ∃ r, y = .int r ∧ start ≤ r ∧ r ≤ start + (N : Int)) (c := 1) (fun y hy n' Φ2 hn' h2 => ?_) fun out ho hp => ?_⟩
        · walk_at "wd"
          refine we_callT rfl ?_
          walk_at "wd"
          simp at hn'
          refine ⟨by omega, _, rfl, by omega, by omega, fun q q0 q1 => ?_⟩
          walk_at "wd"
          exact h2 _ ⟨_, rfl, by omega, by omega⟩
        · obtain ⟨ns, rfl, hns⟩ := ints_of hp
          have hln : ns.length = N := by simpa using ho
          walk_at "wd"
          refine ⟨by omega, fun ns' hperm hsort => ?_⟩
          have hl' : ns'.length = N := by rw [hperm.length_eq]; exact hln
          walk_at "wd"
          have hmem : ∀ x ∈ ns', start ≤ x ∧ x ≤ start + (N : Int) := fun x hx => hns x (hperm.mem_iff.mp hx)
          have hne : ns' ≠ [] := by
            intro z
            rw [z] at hl'
            simp at hl'
            omega
          refine ⟨h _ ⟨(isWb_iff _).mpr (sorted_isW hne hsort fun x hx => by rw [hl']; exact hmem x hx), hl', fun x hx => ?_⟩, ?_⟩
          · have := hmem x hx
            omega
          · simp
            omega
      walk_at "wd"
      refine ⟨fun e2 => ?_, fun e2 => ?_⟩
      · refine we_op2 rd_i0 (we_var rfl (we_int ?_))
        refine ⟨_, _, rfl, rfl, rfl, ?_⟩
        refine fin _ _ ?_ ?_ ?_ <;> omega
      · refine we_op2 rd_i0 (we_int (we_callT rfl (wa_cons (we_var rfl (wa_nil ?_)))))
        refine ⟨rfl, by omega, _, rfl, by omega, by omega, fun q q0 q1 => ?_⟩
        refine ⟨_, _, rfl, rfl, rfl, ?_⟩
        refine fin _ _ ?_ ?_ ?_ <;> omega
def R_disks (ds : List PyData) (Φ : PyData → Prop) : Prop := ∃ N M : Nat, ds = [.int (N : Int), .int (M : Int)] ∧ 1 ≤ N ∧ N ≤ 9 ∧ 1 ≤ M ∧ M ≤ 4 ∧ ∀ ws : List (List Int), ws.length = M → (∀ w ∈ ws, Drawn N w) → Φ (.tuple (ws.map dT))
theorem disks_of {p : List Int → Prop} : ∀ {out : List PyData}, (∀ y ∈ out, ∃ r, y = dT r ∧ p r) → ∃ ns : List (List Int), out = ns.map dT ∧ ∀ r ∈ ns, p r
  | [], _ => ⟨[], rfl, fun _ h => by cases h⟩
  | y :: out, h => by
    obtain ⟨r, rfl, hr⟩ := h y List.mem_cons_self
    obtain ⟨ns, e, hn⟩ := disks_of (out := out) fun z hz => h z (List.mem_cons_of_mem _ hz)
    refine ⟨r :: ns, by rw [e]; rfl, fun z hz => ?_⟩
    rcases List.mem_cons.mp hz with q | q
    · rw [q]; exact hr
    · exact hn z q
theorem dn_disks (T : Txt K mg) : Dn P w K mg base CX0 "_law_disks" 3 ["_law_tin", "_law_ring_so", "_law_many_so"] (spT 48 2 R_disks) := by
  have D__law_disk := dn_disk (P := P) (w := w) (base := base) T
  refine Dn.of T.f__law_disks (fun f fd F => F.ok sc__law_disks (fun vs H Q E h => spT_len h) (fun cdv A outer s H vs Q E hr h => ⟨_, (pss_one (ps_ret (pe_callTy (tuple_K (K := K)) (by rfl) T.b_tuple (by decide +kernel) (pa_cons (pe_lc (own := [("_law_lap", 3)]) (g := gName 3) (tt := tYes) rfl sc__law_disks.nd (pi_range1 (by rfl) T.b_range (pa_cons (pv 2) pa_nil)) (blkOk_by (N := n__law_disks) (sc := defScope s__law_disks) (by decide +kernel)) (fun _ _ _ _ _ => (pg_name (i := 3) sc__law_disks.nd rfl (Or.inl rfl))) (fun _ _ _ _ _ => pts_nil) (fun _ _ _ _ _ => (pe_dn D__law_disk (hr.mono (by omega)) (pa_cons (pv 0) (pa_cons (pv 1) pa_nil))))) pa_nil)))), fn_T h ?_⟩)) (fun f fd F => F.binds fun _ _ _ _ _ _ us hl => match us, hl with | [_, _, _], _ => rfl)
  intro a ds n Φ _ hn hR
  obtain ⟨N, M, rfl, hN1, hN9, hM1, hM4, h⟩ := hR
  walk_at "wd"
  refine we_lc (tg_name 3) (WI.t (wi_rngN ?_))
  walk_at "wd"
  refine ⟨by omega, by simpa using (show M ≤ 1000 by omega), fun _ _ => trivial, lc_any (P := fun y => ∃ r, y = dT r ∧ Drawn N r) (c := 12) (fun y hy n' Φ2 hn' h2 => ?_) fun out ho hp => ?_⟩
  · refine we_callT rfl ?_
    walk_at "wd"
    simp at hn'
    refine ⟨by omega, N, rfl, hN1, hN9, fun w hw => ?_⟩
    exact h2 _ ⟨w, rfl, hw⟩
  · obtain ⟨ns, rfl, hns⟩ := disks_of hp
    have hln : ns.length = M := by simpa using ho
    walk_at "wd"
    refine ⟨h ns hln hns, ?_⟩
    simp
    omega
end
end BW

set_option Elab.async false
set_option linter.all false
set_option maxRecDepth 100000
set_option maxHeartbeats 4000000
namespace BW
open PySem PySem.Spec PyProof.Rows L2
local macro_rules | `(tactic| walk_at "wd") => `(tactic| (repeat (first
  | with_reducible refine ws_seq ?_
  | with_reducible refine ws_ret ?_
  | with_reducible refine ws_set ?_
  | with_reducible refine ws_par ?_
  | with_reducible refine ws_next ?_
  | with_reducible refine we_lenM (by with_unfolding_all rfl) ?_
  | with_reducible refine we_tupM (by with_unfolding_all rfl) ?_
  | with_reducible refine we_ixM (by with_unfolding_all rfl) ?_
  | with_reducible refine we_var (by with_unfolding_all rfl) ?_
  | with_reducible refine we_int ?_
  | with_reducible refine we_bl ?_
  | with_reducible refine we_str ?_
  | with_reducible refine we_non ?_
  | with_reducible refine wa_cons ?_
  | with_reducible refine wa_nil ?_
  | with_reducible refine we_tup ?_
  | with_reducible refine we_lst ?_
  | with_reducible refine we_call ?_
  | with_reducible refine we_op2 rd_i0 ?_
  | with_reducible refine we_op2 rd_i ?_
  | with_reducible refine we_op2 rd_ixT ?_
  | with_reducible refine we_op2 rd_ixL ?_
  | with_reducible refine we_op2 rd_cat ?_
  | with_reducible refine we_neg ?_
  | with_reducible refine we_cb cd_len ?_
  | with_reducible refine we_cb cd_list ?_
  | with_reducible refine we_cb cd_tuple ?_
  | with_reducible refine we_cb cd_all ?_
  | with_reducible refine we_cb cd_divmod ?_
  | with_reducible refine we_isi (by decide) ?_
  | with_reducible refine we_isi2 (by decide) (by decide) ?_
  | with_reducible refine we_if ?_
  | with_reducible refine ws_if ?_
  | with_reducible refine wt_b ?_
  | with_reducible refine wt_test ?_
  | with_reducible refine wt_not ?_
  | with_reducible refine wt_or ?_
  | with_reducible refine wt_and ?_
  | with_reducible refine we_notV ?_
  | with_reducible refine we_andV ?_
  | with_reducible refine we_orV ?_
  | with_reducible refine we_back ?_
  | with_reducible refine wo_none ?_
  | with_reducible refine wo_some ?_
  | with_reducible refine ⟨_, _, rfl, rfl, rfl, ?_⟩
  | with_reducible refine ⟨by with_unfolding_all rfl, ?_⟩
  | refine ⟨_, rfl, ?_⟩
  | with_reducible refine ⟨_, _, rfl, ?_⟩
  | refine ⟨_, _, rfl, Or.inr rfl, ?_⟩
  | refine ⟨_, _, rfl, Or.inl rfl, ?_⟩
  | refine ⟨Nat.le_of_ble_eq_true (by with_unfolding_all rfl), ?_⟩
  )))
section
variable {X : Cx} {K : PySem.W.Frag}
theorem enum_K {e : Expr} {ta : TA} {p pos tpos : Pos} {elts : List Expr} {kk : Nat} (hg : Gl X "enumerate") (hm : X.mg "enumerate" = none) (ha : PA X [e] ta) (ek : X.K = K := by rfl) (hs : starEach [e] X.env = [(false, eval e X.env)] := by rfl) :
    PI X (.Tuple elts kk tpos) (.Call (.Name "enumerate" p) [e] [] pos) (iEnum K ta) := by subst ek; exact pi_enum hg hm ha hs
theorem orT_K {a b : Expr} {ta tb : TE} {rest : List Expr} {pos : Pos} (ha : PE X a ta) (hb : PE X (.BoolOp .Or (b :: rest) pos) tb) (ek : X.K = K := by rfl) : PE X (.BoolOp .Or (a :: b :: rest) pos) (tOrT K ta tb) := by subst ek; exact pe_orT ha hb
end
section
variable {m : Option Addr} {te : TE} {ta : TA} {i n : Nat} {u : TS} {D : Ends} {σ : Sg} {B G H : Hp} {l : List Sl}
theorem use_asg (Φ : PyP) (h : WE m te l n Φ) (st : StD m B G H σ l) (w : Wk m n G H) (k : ∀ d n' G' H' σ', Φ d n' → Tr m G H G' H' → Wk m n' G' H' → StD m B G' H' σ' (l.set i (.d d)) → u D σ' H') : tSeq (tAsg te (gName i)) u D σ H :=
  seq_asg (h B σ G H _ st w fun v d n' G' H' p t w' x => k d n' G' H' _ p t w' ((st.step t).setD x))
theorem ret_lst (Ψ : List PyData → Nat → Prop) (h : WA m ta l n Ψ) (st : StD m B G H σ l) (w : Wk m n G H) (k : ∀ vs ds n' G' H', Ψ ds n' → Tr m G H G' H' → Wk m n' G' H' → DtAll G' ds vs → vs.length ≤ sizeLine ∧ ∀ p, H' p = none → D.rt (.ref p) (upd H' p (.lst vs))) : tRet (tLst ta) D σ H :=
  h B σ G H _ st w fun vs ds n' G' H' p t w' x => k vs ds n' G' H' p t w' x
theorem WS.run {ts : TS} {Ψ : List Sl → Nat → Prop} {R : PyP} (h : WS m ts l n Ψ R) {G0 : Hp} (h0 : Tr m G0 B G H) (st : StD m B G H σ l) (w : Wk m n G H) (hn : ∀ σ' l' n' G' H', Ψ l' n' → Same G G' → Tr m G0 B G' H' → Wk m n' G' H' → StD m B G' H' σ' l' → D.nx σ' H') (hr : KE m G0 B R D.rt) : ts D σ H :=
  h G0 B σ G H D h0 st w hn hr
end
section
variable {P : Program} {w : World} {K : PySem.W.Frag} {mg : Str → Option Value} {base : Heap}
/-- the source of the draws: a new list of three numbers, the last one 0, not among the data -/
def spBox : Sp := fun vs H Q _ => ∃ (G : Hp) (cs : List Int) (k : Nat), Same G H ∧ DtAll G [dL cs, .int (k : Int)] vs ∧ k < cs.length ∧ cs.length ≤ 1000 ∧
  ∀ (p : Addr) (G' H' : Hp) (a b : Int), Tr none G H G' H' → Same G' H' → G' p = none → H p = none → H' p = some (.lst [.int a, .int b, .int 0]) → Q (.ref p) H'
theorem dn_box (T : Txt K mg) : Dn P w K mg base CX0 "_law_box" 1 ["_law_script", "_law_k"] spBox := by
  refine Dn.of T.f__law_box (fun f fd F => F.ok sc__law_box (fun vs H Q E h => ?_) (fun cdv A outer s H vs Q E hr h => ⟨_, (pss_cons (ps_set (i := 2) sc__law_box.nd rfl (Or.inl rfl) (pe_ifExp (pt_cmpR op_lt (pv 1) (pe_callB (len_K (K := K)) (by rfl) T.b_len PySem.boot_len (pa_cons (pv 0) pa_nil)) (nomark _)) (pe_ix (ixL_K (K := K)) (pv 0) (pv 1) (fun _ _ => rfl)) pe_int)) (pss_one (ps_ret (pe_lst (pa_cons (pe_op op_mul (pe_callB call_abs (by rfl) T.b_abs (by decide +kernel) (pa_cons (pv 2) pa_nil)) (pe_callTy call_int1 (by rfl) T.b_int (by decide +kernel) (pa_cons (pe_cmpR op_ge (pe_callB call_abs (by rfl) T.b_abs (by decide +kernel) (pa_cons (pv 2) pa_nil)) (pe_op op_pow pe_int pe_int) (nomark _)) pa_nil))) (pa_cons (pe_op op_add (pe_op op_add (pe_op op_mod (pe_callTy call_int1 (by rfl) T.b_int (by decide +kernel) (pa_cons (pv 2) pa_nil)) pe_int) (pe_op op_mul pe_int (pv 1))) pe_int) (pa_cons pe_int pa_nil))))))), ?_⟩)) (fun f fd F => F.binds fun _ _ _ _ _ _ us hl => match us, hl with | [_, _], _ => rfl)
  · obtain ⟨G, cs, k, _, x, _⟩ := h
    exact x.length
  obtain ⟨G, cs, k, s0, x, hk, hl, q⟩ := h
  have st0 : StD none H G H (L2.start n__law_box vs) [.d (dL cs), .d (.int (k : Int)), .un] := st_start x
  have w0 : Wk none 0 G H := ⟨s0, fun _ e => nomatch e⟩
  refine use_asg (fun d _ => ∃ i : Int, d = .int i) ?_ st0 w0 fun d n1 G1 H1 σ1 ⟨i, e⟩ t1 w1 st1 => ?_
  · walk_at "wd"
    rw [List.length_map]
    refine ⟨fun _ => ?_, fun e => ?_⟩
    · walk_at "wd"
      exact ⟨_, _, _, rfl, rfl, at_intsN hk, _, rfl⟩
    · have := of_decide_eq_false e
      omega
  subst e
  refine ret_lst (fun ds _ => ∃ a b : Int, ds = [.int a, .int b, .int 0]) ?_ st1 w1 fun vs2 ds2 n2 G2 H2 ⟨a, b, e⟩ t2 w2 x2 => ?_
  · walk_at "wd"
    refine we_cb cd_abs ?_
    walk_at "wd"
    refine we_cb cd_int ?_
    walk_at "wd"
    refine we_cb cd_abs ?_
    walk_at "wd"
    refine ⟨_, _, rfl, rfl, ⟨by decide, by decide, by decide⟩, rfl, ?_⟩
    walk_at "wd"
    refine .inr ⟨_, rfl, ?_⟩
    generalize decide ((10 : Int) ^ Int.toNat 18 ≤ _) = flag
    have hf1 : -(2 : Int) ^ 64 < (if flag = true then 1 else 0) := by cases flag <;> decide
    have hf2 : (if flag = true then (1 : Int) else 0) < 2 ^ 64 := by cases flag <;> decide
    refine ⟨_, _, rfl, rfl, .inr ⟨hf1, hf2⟩, rfl, ?_⟩
    walk_at "wd"
    refine we_cb cd_int ?_
    walk_at "wd"
    refine .inl ⟨_, rfl, ?_⟩
    walk_at "wd"
    refine ⟨_, _, rfl, rfl, by decide, rfl, ?_⟩
    walk_at "wd"
    refine ⟨_, _, rfl, rfl, .inl ⟨by decide, by decide⟩, rfl, ?_⟩
    walk_at "wd"
    exact ⟨_, _, rfl⟩
  subst e
  refine ⟨by rw [x2.length]; show 3 ≤ sizeLine; decide, fun p hp => ?_⟩
  have T := t1.trans t2
  have hp0 : H p = none := by
    cases e : H p with
    | none => rfl
    | some o => exact absurd hp (T.n p (by rw [e]; intro z; cases z))
  have e2 := (DtAll.ints (ns := [a, b, 0])).mp x2
  subst e2
  exact q p G2 _ a b (T.put hp0) (w2.put (w2.s.free hp) (by simp)).s (w2.s.free hp) hp0 upd_same
/-- the cells of the script: one or two numbers -/
def spCells (K : PySem.W.Frag) : Sp := fun vs H Q _ => ∃ (G : Hp) (a : Addr) (ns : List Int), Same G H ∧ vs = [.ref a, .int 2] ∧ SqL K H a (ns.map V.int) ∧ ns.length ≤ 63 ∧
  ∀ (cs : List Int) (v : V) (G' H' : Hp), (cs.length = 1 ∨ cs.length = 2) → Tr none G H G' H' → Same G' H' → Dt G' (dL cs) v → Q v H'
theorem dn_cells (T : Txt K mg) : Dn P w K mg base CX0 "_law_cells" 1 ["_law_script", "_law_most_so"] (spCells K) := by
  refine Dn.of T.f__law_cells (fun f fd F => F.ok sc__law_cells (fun vs H Q E h => ?_) (fun cdv A outer s H vs Q E hr h => ⟨_, (pss_cons (ps_set (i := 2) sc__law_cells.nd rfl (Or.inl rfl) (orT_K (K := K) (pe_callTy (list_K (K := K)) (by rfl) T.b_list (by decide +kernel) (pa_cons (pe_slice (slL_K (K := K)) (pv 0) po_none (po_some (pv 1))) pa_nil)) (pe_one (pe_lst (pa_cons pe_int pa_nil))))) (pss_cons (ps_for PassesOwn.never rfl (enum_K (K := K) (by rfl) T.b_enumerate (pa_cons (pe_slice (slL_K (K := K)) (pv 0) (po_some (pv 1)) (po_some pe_int)) pa_nil)) (pg_tup (n := 2) rfl (pgs_cons (pg_name (i := 3) sc__law_cells.nd rfl (Or.inl rfl)) (pgs_cons (pg_name (i := 4) sc__law_cells.nd rfl (Or.inl rfl)) pgs_nil))) (pss_cons (ps_set (i := 5) sc__law_cells.nd rfl (Or.inl rfl) (pe_op op_mod (pe_callTy call_int1 (by rfl) T.b_int (by decide +kernel) (pa_cons (pv 3) pa_nil)) (pv 1))) (pss_one (ps_asg (pe_op op_add (pe_ix (ixL_K (K := K)) (pv 2) (pv 5) (fun _ _ => rfl)) (pe_op op_mul (pv 4) (pe_op op_add (pv 3) pe_int))) (pg_sub (pv 2) (pv 5) set_list))))) (pss_one (ps_ret (pv 2))))), ?_⟩)) (fun f fd F => F.binds fun _ _ _ _ _ _ us hl => match us, hl with | [_, _], _ => rfl)
  · obtain ⟨G, a, ns, _, rfl, _⟩ := h
    rfl
  obtain ⟨G, a, ns, s0, rfl, hS, hl, q⟩ := h
  have st0 : StD none H G H (L2.start n__law_cells [.ref a, .int 2]) [.sq K ns, .d (.int 2), .un, .un, .un, .un] := by
    refine ⟨rfl, fun i s o p r => ?_⟩
    match i, p, r with
    | 0, p, r =>
      cases p
      cases r
      exact ⟨a, rfl, by simp, hS, hS⟩
    | 1, p, r =>
      cases p
      cases r
      exact ⟨_, rfl, dt_int.mpr rfl⟩
    | 2, p, r => cases p; trivial
    | 3, p, r => cases p; trivial
    | 4, p, r => cases p; trivial
    | 5, p, r => cases p; trivial
    | k + 6, p, r => cases p
  have w0 : Wk none 0 G H := ⟨s0, fun _ e => nomatch e⟩
  have fin : ∀ {v : V} {d : PyData} {n' : Nat} {G' H' : Hp}, (∃ cs : List Int, d = dL cs ∧ (cs.length = 1 ∨ cs.length = 2)) → Tr none G H G' H' → Wk none n' G' H' → Dt G' d v → Q v H' := by
    rintro v d n' G' H' ⟨cs, rfl, hc⟩ t w x
    exact q cs v G' H' hc t w.s x
  refine WS.run (Ψ := fun _ _ => False) (R := fun d _ => ∃ cs : List Int, d = dL cs ∧ (cs.length = 1 ∨ cs.length = 2)) ?_ (G0 := G) .refl st0 w0 (fun _ _ _ _ _ z => z.elim) (fun v d n' G' H' h' t' w' x' => fin h' t' w' x')
  refine ws_seq (ws_newLor ?_)
  refine we_cutSq rfl ?_
  walk_at "wd"
  have hcut : cutI ns none (some 2) = ns.take 2 := by
    unfold cutI
    show (ns.drop 0).take (HT.sIx ns.length ns.length (some ((2 : Nat) : Int)) - 0) = _
    rw [HT.sIx_nat, List.drop_zero, Nat.sub_zero]
    by_cases h2 : 2 ≤ ns.length
    · rw [Nat.min_eq_left h2]
    · rw [Nat.min_eq_right (by omega), List.take_of_length_le (Nat.le_refl _), List.take_of_length_le (by omega)]
  have hrest : ns.length ≤ 2 → cutI ns (some 2) (some 63) = [] := by
    intro h2
    unfold cutI
    show (ns.drop (HT.sIx ns.length 0 (some ((2 : Nat) : Int)))).take _ = _
    rw [HT.sIx_nat, List.drop_eq_nil_of_le (by omega), List.take_nil]
  have hrl : (cutI ns (some 2) (some 63)).length ≤ 63 := by
    unfold cutI
    rw [List.length_take, List.length_drop]
    omega
  have main : ∀ cs0 : List Int, (cs0.length = 1 ∨ cs0.length = 2) → (cs0.length = 1 → cutI ns (some 2) (some 63) = []) → WS none (tSeq (tFor (iEnum K (tCons (tSl (rSlL K) (tVar 0) (tPart (tVar 1)) (tPart (tC (.int 63)))) tNil)) (gTup K 2 (gCons (gName 3) (gCons (gName 4) gNil)))
      (tSeq (tAsg (tOp (rI (fun x j => 0 < j) fun i j => V.int (i % j)) (tCB (fun xs H Q => (∃ i, xs = [V.int i] ∧ Q (V.int i) H) ∨ ∃ k, xs = [V.bl k] ∧ Q (V.int (if k then 1 else 0)) H) (tCons (tVar 3) tNil)) (tVar 1)) (gName 5))
        (tAsg (tOp (rI0 fun i j => V.int (i + j)) (tOp (rIxL K) (tVar 2) (tVar 5)) (tOp (rI CMul fun i j => V.int (i * j)) (tVar 4) (tOp (rI0 fun i j => V.int (i + j)) (tVar 3) (tC (.int 2))))) (gSub (tVar 2) (tVar 5) rSetL)))) (tRet (tVar 2)))
      [.sq K ns, .d (.int 2), .ml (cs0.map PyData.int), .un, .un, .un] 0 (fun _ _ => False) (fun d _ => ∃ cs : List Int, d = dL cs ∧ (cs.length = 1 ∨ cs.length = 2)) := by
    intro cs0 hc0 hc1
    refine ws_seq (ws_for (tg_pair (by decide)) (wi_enum (wa_cons (we_cutSq rfl ?_))))
    walk_at "wd"
    refine ⟨fun d hd => ?_, ?_⟩
    · obtain ⟨j, hj⟩ := List.mem_iff_getElem?.mp hd
      have hjl := (List.getElem?_eq_some_iff.mp hj).1
      rw [enumD_length] at hjl
      rw [enumD_get 0 _ j _ (List.getElem?_eq_getElem hjl)] at hj
      exact ⟨_, _, (Option.some.inj hj).symm⟩
    refine fr_inv (fun t l n => ∃ (cs : List Int) (s3 s4 s5 : Sl), l = [.sq K ns, .d (.int 2), .ml (cs.map PyData.int), s3, s4, s5] ∧ plainS s3 = true ∧ plainS s4 = true ∧ plainS s5 = true ∧ cs.length = cs0.length) ?_ ?_ ⟨cs0, .un, .un, .un, rfl, rfl, rfl, rfl, rfl⟩
    · rintro t d l n hd ⟨cs, s3, s4, s5, rfl, h3, h4, h5, hcl⟩
      have htl := (List.getElem?_eq_some_iff.mp hd).1
      rw [enumD_length, List.length_map] at htl
      rw [enumD_get 0 _ t _ (List.getElem?_eq_getElem (by rw [List.length_map]; exact htl)), List.getElem_map] at hd
      cases hd
      have h2 : cs.length = 2 := by
        rcases hc0 with z | z
        · rw [hc1 z] at htl
          simp at htl
        · omega
      generalize (cutI ns (some 2) (some 63))[t] = r
      have hm0 := Int.emod_nonneg ((0 + t : Nat) : Int) (show (2 : Int) ≠ 0 by decide)
      have hm1 := Int.emod_lt_of_pos ((0 + t : Nat) : Int) (show (0 : Int) < 2 by decide)
      obtain ⟨j, hj⟩ : ∃ j : Nat, ((0 + t : Nat) : Int) % 2 = (j : Int) := ⟨(((0 + t : Nat) : Int) % 2).toNat, by omega⟩
      walk_at "wd"
      refine we_cb cd_int ?_
      walk_at "wd"
      refine .inl ⟨_, rfl, ?_⟩
      walk_at "wd"
      refine ⟨_, _, rfl, rfl, by decide, rfl, ?_⟩
      rw [hj]
      refine ws_setM rfl (by cases s3 <;> first | (cases s4 <;> first | rfl | cases h4) | cases h3) ?_
      walk_at "wd"
      refine ⟨_, _, rfl, at_intsN (i := j) (by omega), ?_⟩
      walk_at "wd"
      refine ⟨_, _, rfl, rfl, .inr ⟨by omega, by omega⟩, rfl, ?_⟩
      walk_at "wd"
      rw [List.length_map, h2]
      refine ⟨_, j, rfl, by unfold ixN; rw [if_pos (by omega), if_pos (by omega)]; rfl, ?_⟩
      refine ⟨cs.set j (cs.getD j 0 + r * (((0 + t : Nat) : Int) + 2)), .d (.int ((0 + t : Nat) : Int)), .d (.int r), .d (.int (j : Int)), ?_, rfl, rfl, rfl, by rw [List.length_set]; exact hcl⟩
      rw [List.map_set]
      rfl
    · rintro l n ⟨cs, s3, s4, s5, rfl, h3, h4, h5, hcl⟩
      refine ws_retM rfl ⟨cs, rfl, by omega⟩
  refine ⟨_, .inl rfl, fun hne => ?_, fun he => ?_⟩
  · rw [hcut]
    refine main (ns.take 2) ?_ fun h1 => hrest ?_
    · rw [hcut] at hne
      have : 0 < (ns.take 2).length := List.length_pos_iff.mpr (by intro z; rw [z] at hne; exact hne rfl)
      rw [List.length_take] at this ⊢
      omega
    · rw [List.length_take] at h1
      omega
  · refine wa_cons (we_int (wa_nil ⟨Nat.le_of_ble_eq_true rfl, ?_⟩))
    refine main [0] (.inl rfl) fun _ => hrest ?_
    rw [hcut] at he
    have : (ns.take 2).length = 0 := by
      have := congrArg List.length he
      simpa using this
    rw [List.length_take] at this
    omega
end
end BW

set_option Elab.async false
set_option linter.all false
set_option maxRecDepth 100000
set_option maxHeartbeats 8000000
namespace BW
open PySem PySem.Spec PyProof.Rows L2
local macro_rules | `(tactic| walk_at "wd") => `(tactic| (repeat (first
  | with_reducible refine ws_seq ?_
  | with_reducible refine ws_ret ?_
  | with_reducible refine ws_set ?_
  | with_reducible refine ws_par ?_
  | with_reducible refine ws_next ?_
  | with_reducible refine we_lenM (by with_unfolding_all rfl) ?_
  | with_reducible refine we_tupM (by with_unfolding_all rfl) ?_
  | with_reducible refine we_ixM (by with_unfolding_all rfl) ?_
  | with_reducible refine we_var (by with_unfolding_all rfl) ?_
  | with_reducible refine we_int ?_
  | with_reducible refine we_bl ?_
  | with_reducible refine we_str ?_
  | with_reducible refine we_non ?_
  | with_reducible refine wa_cons ?_
  | with_reducible refine wa_nil ?_
  | with_reducible refine we_tup ?_
  | with_reducible refine we_lst ?_
  | with_reducible refine we_call ?_
  | with_reducible refine we_op2 rd_i0 ?_
  | with_reducible refine we_op2 rd_i ?_
  | with_reducible refine we_op2 rd_ixT ?_
  | with_reducible refine we_op2 rd_ixL ?_
  | with_reducible refine we_op2 rd_cat ?_
  | with_reducible refine we_neg ?_
  | with_reducible refine we_cb cd_len ?_
  | with_reducible refine we_cb cd_list ?_
  | with_reducible refine we_cb cd_tuple ?_
  | with_reducible refine we_cb cd_all ?_
  | with_reducible refine we_cb cd_divmod ?_
  | with_reducible refine we_isi (by decide) ?_
  | with_reducible refine we_isi2 (by decide) (by decide) ?_
  | with_reducible refine we_if ?_
  | with_reducible refine ws_if ?_
  | with_reducible refine wt_b ?_
  | with_reducible refine wt_test ?_
  | with_reducible refine wt_not ?_
  | with_reducible refine wt_or ?_
  | with_reducible refine wt_and ?_
  | with_reducible refine we_notV ?_
  | with_reducible refine we_andV ?_
  | with_reducible refine we_orV ?_
  | with_reducible refine we_back ?_
  | with_reducible refine wo_none ?_
  | with_reducible refine wo_some ?_
  | with_reducible refine ⟨_, _, rfl, rfl, rfl, ?_⟩
  | with_reducible refine ⟨by with_unfolding_all rfl, ?_⟩
  | refine ⟨_, rfl, ?_⟩
  | with_reducible refine ⟨_, _, rfl, ?_⟩
  | refine ⟨_, _, rfl, Or.inr rfl, ?_⟩
  | refine ⟨_, _, rfl, Or.inl rfl, ?_⟩
  | refine ⟨Nat.le_of_ble_eq_true (by with_unfolding_all rfl), ?_⟩
  )))
theorem led_shf {N : Nat} (hN : 0 < N) (m z : Int) : led (shf N m) z = z + m := by
  have hne : shf N m ≠ [] := (shf_isW hN m).ne
  obtain ⟨a1, a2, a3⟩ := mod_lt hne z
  have e := Int.emod_add_mul_ediv z ((shf N m).length : Int)
  have ec := Int.mul_comm ((shf N m).length : Int) (z / ((shf N m).length : Int))
  unfold led
  rw [shf_length] at *
  rw [shf_getD a3]
  omega
theorem it_shf {N : Nat} (hN : 0 < N) (m : Int) : ∀ (k : Nat) (z : Int), it (led (shf N m)) k z = z + (k : Int) * m
  | 0, z => by
    show z = z + ((0 : Nat) : Int) * m
    rw [Int.natCast_zero, Int.zero_mul, Int.add_zero]
  | k + 1, z => by
    show led (shf N m) (it (led (shf N m)) k z) = _
    rw [it_shf hN m k z, led_shf hN, Int.natCast_succ, Int.add_mul, Int.one_mul]
    omega
theorem pw_shf {N : Nat} (hN : 0 < N) (m : Int) (k : Nat) : pw (shf N m) k = shf N ((k : Int) * m) := by
  unfold pw
  rw [shf_length]
  unfold rng
  show List.map _ (List.map _ _) = List.map _ _
  rw [List.map_map]
  apply List.map_congr_left
  intro i _
  show it (led (shf N m)) k (i : Int) = (k : Int) * m + (i : Int)
  rw [it_shf hN]
  omega
theorem pw_halves (k : Nat) (hk : 0 < k) : pw [1, 1] k = [1, 1] := by
  have one : ∀ k, it (led [1, 1]) k 1 = 1 := by
    intro k
    induction k with
    | zero => rfl
    | succ k ih =>
      show led [1, 1] (it (led [1, 1]) k 1) = 1
      rw [ih]
      decide
  have zero : ∀ k, it (led [1, 1]) (k + 1) 0 = 1 := by
    intro k
    induction k with
    | zero => decide
    | succ k ih =>
      show led [1, 1] (it (led [1, 1]) (k + 1) 0) = 1
      rw [ih]
      decide
  obtain ⟨j, rfl⟩ : ∃ j, k = j + 1 := ⟨k - 1, by omega⟩
  show [it (led [1, 1]) (j + 1) 0, it (led [1, 1]) (j + 1) 1] = [1, 1]
  rw [zero, one]
theorem pw_3 : pw [3] 1000000000000000000000000000000 = [3000000000000000000000000000000] := by
  have e : ([3] : List Int) = shf 1 3 := by decide +kernel
  rw [e, pw_shf (by decide)]
  decide +kernel
theorem pw_123 : pw [1, 2, 3] 1000000000000000000000000000000 = [1000000000000000000000000000000, 1000000000000000000000000000001, 1000000000000000000000000000002] := by
  have e : ([1, 2, 3] : List Int) = shf 3 1 := by decide +kernel
  rw [e, pw_shf (by decide)]
  decide +kernel
theorem pw_great2 : pw [1000000000000000000000000000000, 1000000000000000000000000000001, 1000000000000000000000000000002] 2 = [2000000000000000000000000000000, 2000000000000000000000000000001, 2000000000000000000000000000002] := by
  have e : ([1000000000000000000000000000000, 1000000000000000000000000000001, 1000000000000000000000000000002] : List Int) = shf 3 1000000000000000000000000000000 := by decide +kernel
  rw [e, pw_shf (by decide)]
  decide +kernel
theorem ten30 : (10 : Int) ^ Int.toNat 30 = 1000000000000000000000000000000 := by decide +kernel
theorem ten6 : (10 : Int) ^ Int.toNat 6 = 1000000 := by decide +kernel
def okSb : Nat → PyData → Bool
  | 0, d => atomS d
  | k + 1, d => match d with
    | .list ds => decide (ds.length ≤ 1000) && ds.all (okSb k)
    | .tuple ds => decide (ds.length ≤ 1000) && ds.all (okSb k)
    | d => atomS d
theorem okS_of : ∀ (k : Nat) (d : PyData), okSb k d = true → okS k d
  | 0, d, h => h
  | k + 1, d, h => by
    cases d with
    | list ds =>
      have h' : (decide (ds.length ≤ 1000) && ds.all (okSb k)) = true := h
      rw [Bool.and_eq_true] at h'
      exact ⟨of_decide_eq_true h'.1, fun x hx => okS_of k x (List.all_eq_true.mp h'.2 x hx)⟩
    | tuple ds =>
      have h' : (decide (ds.length ≤ 1000) && ds.all (okSb k)) = true := h
      rw [Bool.and_eq_true] at h'
      exact ⟨of_decide_eq_true h'.1, fun x hx => okS_of k x (List.all_eq_true.mp h'.2 x hx)⟩
    | none => exact h
    | bool _ => exact h
    | int _ => exact h
    | str _ => exact h
    | dict _ => exact h
theorem tup_train (ws : List (List Int)) : tupD (.tuple (ws.map dT)) = .tuple (ws.map dT) := by
  rw [tupD_tuple, List.map_map]
  congr 1
  apply List.map_congr_left
  intro u _
  exact tupD_dT u
theorem ok_train {ws : List (List Int)} (h1 : ws.length ≤ 1000) (h2 : ∀ w ∈ ws, w.length ≤ 1000) : okD 2 (.tuple (ws.map dT)) := by
  refine ⟨by rw [List.length_map]; exact h1, fun x hx => ?_⟩
  obtain ⟨u, hu, rfl⟩ := List.mem_map.mp hx
  exact IsD.ok (.inl rfl) (h2 u hu) 0
theorem wipe_setn (σ : Sg) (i : Nat) (o : Option V) : ∀ vs : List Nat, (wipe (σ.set i o) vs).set i none = (wipe σ vs).set i none
  | [] => by
    show (σ.set i o).set i none = σ.set i none
    rw [List.set_set]
  | v :: vs => by
    show ((wipe (σ.set i o) vs).set v none).set i none = ((wipe σ vs).set v none).set i none
    by_cases e : v = i
    · subst e
      rw [List.set_set, List.set_set, wipe_setn σ v o vs]
    · rw [List.set_comm _ _ e, wipe_setn σ i o vs, List.set_comm _ _ e]
theorem wipe_set {σ : Sg} {i : Nat} {o : Option V} {vs : List Nat} (h : i ∈ vs) : wipe (σ.set i o) vs = wipe σ vs := by
  rw [← wipe_mem h, wipe_setn, wipe_mem h]
def tripS (i j k : Nat) (l : List Sl) : PyData → List Sl
  | .tuple [a, b, c] => ((l.set i (.d a)).set j (.d b)).set k (.d c)
  | _ => l
theorem tg_three {K : PySem.W.Frag} {i j k : Nat} : TgD (gTup K 3 (gCons (gName i) (gCons (gName j) (gCons (gName k) gNil)))) [i, j, k] (tripS i j k) (fun d => ∃ a b c, d = .tuple [a, b, c]) := ⟨fun m n B G H σ l x d Q hs hw hx hok q => by
  obtain ⟨a, b, c, rfl⟩ := hok
  obtain ⟨p, us, rfl, gp, ka⟩ := dt_tuple.mp hx
  obtain ⟨v, r, rfl, k1, t1⟩ := dta_cons.mp ka
  obtain ⟨u, z, rfl, k2, k3⟩ := t1.v2
  refine ⟨p, _, rfl, .inl (.inl (hw.s _ _ gp)), rfl, v, [u, z], rfl, u, [z], rfl, z, [], rfl, rfl, q _ (((hs.setD k1).setD k2).setD k3) ?_⟩
  rw [wipe_set (by simp), wipe_set (by simp), wipe_set (by simp)]⟩
section
variable {P : Program} {w : World} {K : PySem.W.Frag} {mg : Str → Option Value} {base : Heap} {C : Addr}
def R_hand (ds : List PyData) (Φ : PyData → Prop) : Prop := Φ (.bool true)
theorem dn_hand (T : Txt K mg) (TC : TxtC K mg C) : Dn P w K mg base CX0 "_law_hand_right" 7 [] (spD 0 R_hand) := by
  have D_leads := dn_leads (P := P) (w := w) (base := base) T
  have D_shift := dn_shift (P := P) (w := w) (base := base) T
  have D_is_shift := dn_is_shift (P := P) (w := w) (base := base) T
  have D__law_heard := dn_heard (P := P) (w := w) (base := base) T TC
  have D_put_together := dn_put_together (P := P) (w := w) (base := base) T
  have D_power := dn_power (P := P) (w := w) (base := base) T
  have D_is_wheel := dn_is_wheel (P := P) (w := w) (base := base) T
  have D_is_train := dn_is_train (P := P) (w := w) (base := base) T
  have D__law_same := dn_same (P := P) (w := w) (base := base) T 2
  refine Dn.of T.f__law_hand_right (fun f fd F => F.ok sc__law_hand_right (fun vs H Q E h => spD_len h) (fun cdv A outer s H vs Q E hr h => ⟨_, (pss_cons (ps_asg (pe_tup (pa_cons (pe_tup (pa_cons pe_int (pa_cons pe_int (pa_cons pe_int pa_nil)))) (pa_cons (pe_tup (pa_cons pe_int (pa_cons pe_int (pa_cons pe_int pa_nil)))) (pa_cons (pe_tup (pa_cons pe_int (pa_cons pe_int pa_nil))) pa_nil)))) (pg_tup (n := 3) rfl (pgs_cons (pg_name (i := 4) sc__law_hand_right.nd rfl (Or.inr rfl)) (pgs_cons (pg_name (i := 5) sc__law_hand_right.nd rfl (Or.inl rfl)) (pgs_cons (pg_name (i := 6) sc__law_hand_right.nd rfl (Or.inl rfl)) pgs_nil))))) (pss_cons (ps_set (i := 0) sc__law_hand_right.nd rfl (Or.inl rfl) (pe_lst (pa_cons (pe_lc (own := [("_law_own", 7)]) (g := gName 7) (tt := tYes) rfl sc__law_hand_right.nd (piT_K (K := K) (pe_tup (pa_cons pe_int (pa_cons pe_int (pa_cons (pe_un un_neg pe_int) (pa_cons pe_int (pa_cons (pe_un un_neg pe_int) pa_nil))))))) (blkOk_by (N := n__law_hand_right) (sc := defScope s__law_hand_right) (by decide +kernel)) (fun _ _ _ _ _ => (pg_name (i := 7) sc__law_hand_right.nd rfl (Or.inl rfl))) (fun _ _ _ _ _ => pts_nil) (fun _ _ _ _ _ => (pe_dn D_leads (hr.mono (by omega)) (pa_cons (pv 4) (pa_cons (pv 7) pa_nil))))) (pa_cons (pe_dn D_shift (hr.mono (by omega)) (pa_cons pe_int (pa_cons pe_int pa_nil))) (pa_cons (pe_dn D_shift (hr.mono (by omega)) (pa_cons pe_int (pa_cons (pe_un un_neg pe_int) pa_nil))) pa_nil))))) (pss_cons (ps_set (i := 0) sc__law_hand_right.nd rfl (Or.inl rfl) (pe_op op_cat (pv 0) (pe_lst (pa_cons (pe_dn D_is_shift (hr.mono (by omega)) (pa_cons (pe_tup (pa_cons pe_int (pa_cons pe_int (pa_cons pe_int pa_nil)))) pa_nil)) (pa_cons (pe_dn D_is_shift (hr.mono (by omega)) (pa_cons (pv 4) pa_nil)) (pa_cons (pe_dn D_is_shift (hr.mono (by omega)) (pa_cons (pe_tup (pa_cons pe_int pa_nil)) pa_nil)) pa_nil)))))) (pss_cons (ps_set (i := 1) sc__law_hand_right.nd rfl (Or.inl rfl) (pe_lst (pa_cons (pe_lst (pa_cons pe_int (pa_cons pe_int (pa_cons pe_int (pa_cons pe_int (pa_cons (pe_un un_neg pe_int) pa_nil)))))) (pa_cons (pe_tup (pa_cons pe_int (pa_cons pe_int (pa_cons pe_int pa_nil)))) (pa_cons (pe_tup (pa_cons (pe_un un_neg pe_int) pa_nil)) (pa_cons pe_bl (pa_cons pe_bl (pa_cons pe_bl pa_nil)))))))) (pss_cons (ps_set (i := 0) sc__law_hand_right.nd rfl (Or.inl rfl) (pe_op op_cat (pv 0) (pe_lst (pa_cons (pe_dn D__law_heard (hr.mono (by omega)) (pa_cons (pe_tup (pa_cons pe_int (pa_cons pe_int (pa_cons pe_int pa_nil)))) pa_nil)) (pa_cons (pe_dn D__law_heard (hr.mono (by omega)) (pa_cons (pv 4) pa_nil)) (pa_cons (pe_dn D__law_heard (hr.mono (by omega)) (pa_cons (pe_tup (pa_cons (pe_un un_neg pe_int) pa_nil)) pa_nil)) (pa_cons (pe_dn D_put_together (hr.mono (by omega)) (pa_cons (pe_tup (pa_cons (pv 4) (pa_cons (pv 5) pa_nil))) pa_nil)) pa_nil))))))) (pss_cons (ps_set (i := 0) sc__law_hand_right.nd rfl (Or.inl rfl) (pe_op op_cat (pv 0) (pe_lst (pa_cons (pe_dn D_put_together (hr.mono (by omega)) (pa_cons (pe_tup (pa_cons (pv 5) (pa_cons (pv 4) pa_nil))) pa_nil)) (pa_cons (pe_dn D_put_together (hr.mono (by omega)) (pa_cons (pe_tup (pa_cons (pv 4) pa_nil)) pa_nil)) pa_nil))))) (pss_cons (ps_set (i := 1) sc__law_hand_right.nd rfl (Or.inl rfl) (pe_op op_cat (pv 1) (pe_lst (pa_cons pe_int (pa_cons (pe_lst (pa_cons pe_str (pa_cons pe_bl pa_nil))) (pa_cons (pe_un un_neg pe_int) (pa_cons (pe_tup (pa_cons pe_int (pa_cons pe_int (pa_cons pe_int pa_nil)))) (pa_cons (pe_tup (pa_cons pe_int (pa_cons pe_int (pa_cons pe_int pa_nil)))) (pa_cons (pv 4) pa_nil))))))))) (pss_cons (ps_set (i := 0) sc__law_hand_right.nd rfl (Or.inl rfl) (pe_op op_cat (pv 0) (pe_lst (pa_cons (pe_dn D_power (hr.mono (by omega)) (pa_cons (pv 4) (pa_cons pe_int pa_nil))) (pa_cons (pe_dn D_power (hr.mono (by omega)) (pa_cons (pv 4) (pa_cons pe_int pa_nil))) (pa_cons (pe_dn D_power (hr.mono (by omega)) (pa_cons (pv 4) (pa_cons pe_int pa_nil))) (pa_cons (pe_dn D_power (hr.mono (by omega)) (pa_cons (pv 4) (pa_cons pe_int pa_nil))) (pa_cons (pe_dn D_power (hr.mono (by omega)) (pa_cons (pv 6) (pa_cons (pe_op op_pow pe_int pe_int) pa_nil))) pa_nil)))))))) (pss_cons (ps_set (i := 0) sc__law_hand_right.nd rfl (Or.inl rfl) (pe_op op_cat (pv 0) (pe_lst (pa_cons (pe_dn D_power (hr.mono (by omega)) (pa_cons (pe_tup (pa_cons pe_int pa_nil)) (pa_cons (pe_op op_pow pe_int pe_int) pa_nil))) (pa_cons (pe_dn D_power (hr.mono (by omega)) (pa_cons (pe_tup (pa_cons pe_int (pa_cons pe_int (pa_cons pe_int pa_nil)))) (pa_cons (pe_op op_pow pe_int pe_int) pa_nil))) pa_nil))))) (pss_cons (ps_set (i := 2) sc__law_hand_right.nd rfl (Or.inl rfl) (pe_op op_pow pe_int pe_int)) (pss_cons (ps_set (i := 3) sc__law_hand_right.nd rfl (Or.inl rfl) (pe_dn D_power (hr.mono (by omega)) (pa_cons (pe_tup (pa_cons pe_int (pa_cons pe_int (pa_cons pe_int pa_nil)))) (pa_cons (pv 2) pa_nil)))) (pss_cons (ps_set (i := 0) sc__law_hand_right.nd rfl (Or.inl rfl) (pe_op op_cat (pv 0) (pe_lst (pa_cons (pe_dn D_is_wheel (hr.mono (by omega)) (pa_cons (pv 3) pa_nil)) (pa_cons (pe_dn D_is_train (hr.mono (by omega)) (pa_cons (pe_tup (pa_cons (pv 3) (pa_cons (pe_tup (pa_cons pe_int (pa_cons pe_int (pa_cons pe_int pa_nil)))) pa_nil))) pa_nil)) (pa_cons (pe_dn D__law_heard (hr.mono (by omega)) (pa_cons (pv 3) pa_nil)) (pa_cons (pe_dn D_leads (hr.mono (by omega)) (pa_cons (pv 3) (pa_cons pe_int pa_nil))) (pa_cons (pe_dn D_is_shift (hr.mono (by omega)) (pa_cons (pv 3) pa_nil)) pa_nil)))))))) (pss_cons (ps_set (i := 0) sc__law_hand_right.nd rfl (Or.inl rfl) (pe_op op_cat (pv 0) (pe_lst (pa_cons (pe_dn D_put_together (hr.mono (by omega)) (pa_cons (pe_tup (pa_cons (pv 3) (pa_cons (pe_tup (pa_cons pe_int (pa_cons pe_int (pa_cons pe_int pa_nil)))) pa_nil))) pa_nil)) (pa_cons (pe_ix (ixT_K (K := K)) (pe_dn D_power (hr.mono (by omega)) (pa_cons (pv 3) (pa_cons pe_int pa_nil))) pe_int (fun _ _ => rfl)) (pa_cons (pe_dn D_shift (hr.mono (by omega)) (pa_cons pe_int (pa_cons (pe_op op_pow pe_int pe_int) pa_nil))) pa_nil)))))) (pss_cons (ps_set (i := 1) sc__law_hand_right.nd rfl (Or.inl rfl) (pe_op op_cat (pv 1) (pe_lst (pa_cons (pe_tup (pa_cons pe_int (pa_cons pe_int (pa_cons pe_int pa_nil)))) (pa_cons (pv 4) (pa_cons (pe_tup (pa_cons pe_int (pa_cons pe_int (pa_cons pe_int pa_nil)))) (pa_cons (pe_tup (pa_cons pe_int (pa_cons pe_int (pa_cons pe_int pa_nil)))) (pa_cons (pv 6) (pa_cons (pe_tup (pa_cons (pe_op op_mul pe_int (pv 2)) pa_nil)) pa_nil))))))))) (pss_cons (ps_set (i := 1) sc__law_hand_right.nd rfl (Or.inl rfl) (pe_op op_cat (pv 1) (pe_lst (pa_cons (pe_tup (pa_cons (pv 2) (pa_cons (pe_op op_add (pv 2) pe_int) (pa_cons (pe_op op_add (pv 2) pe_int) pa_nil)))) (pa_cons pe_bl (pa_cons pe_bl (pa_cons (pv 2) (pa_cons (pe_op op_add (pv 2) pe_int) (pa_cons pe_bl pa_nil))))))))) (pss_one (ps_ret (pe_dn D__law_same (hr.mono (by omega)) (pa_cons (pv 0) (pa_cons (pe_op op_cat (pv 1) (pe_lst (pa_cons (pe_tup (pa_cons (pv 2) (pa_cons (pv 2) (pa_cons (pe_op op_add (pv 2) pe_int) pa_nil)))) (pa_cons (pe_op op_mul pe_int (pv 2)) (pa_cons (pe_tup (pa_cons (pe_op op_pow pe_int pe_int) (pa_cons (pe_op op_add (pe_op op_pow pe_int pe_int) pe_int) pa_nil))) pa_nil))))) pa_nil)))))))))))))))))))), fn_D h ?_⟩)) (fun f fd F => F.binds fun _ _ _ _ _ _ us hl => match us, hl with | [], _ => rfl)
  intro ds Φ hds h
  obtain rfl : ds = [] := List.length_eq_zero_iff.mp hds
  refine ws_seq (ws_asg tg_three ?_)
  walk_at "wd"
  refine ⟨⟨_, _, _, rfl⟩, ?_⟩
  -- got = [[leads(..)], shift(3, 4), shift(1, -2)]
  walk_at "wd"
  refine we_lc (tg_name 7) (WI.t (wi_tup ?_))
  walk_at "wd"
  refine ⟨fun _ _ => trivial, lc_map (g := fun d => match d with | .int z => PyData.int (led [1, 1, 3] z) | _ => .none) (fun y hy n' Φ2 h2 => ?_) ?_⟩
  · have hy' : ∃ z : Int, y = .int z := by
      simp only [List.mem_cons, List.not_mem_nil, or_false] at hy
      rcases hy with rfl | rfl | rfl | rfl | rfl <;> exact ⟨_, rfl⟩
    obtain ⟨z, rfl⟩ := hy'
    walk_at "wd"
    exact ⟨_, [1, 1, 3], z, rfl, .inl rfl, by decide +kernel, by decide, h2⟩
  walk_at "wd"
  refine ⟨3, 4, rfl, by decide, ?_⟩
  walk_at "wd"
  refine ⟨1, -2, rfl, by decide, ?_⟩
  walk_at "wd"
  -- is_shift
  refine ⟨_, [4, 5, 6], rfl, .inl rfl, by decide +kernel, by decide, ?_⟩
  walk_at "wd"
  refine ⟨_, [1, 1, 3], rfl, .inl rfl, by decide +kernel, by decide, ?_⟩
  walk_at "wd"
  refine ⟨_, [5], rfl, .inl rfl, by decide +kernel, by decide, ?_⟩
  walk_at "wd"
  refine ⟨_, _, rfl, rfl, Nat.le_of_ble_eq_true rfl, ?_⟩
  walk_at "wd"
  refine ⟨_, [4, 5, 6], rfl, .inl rfl, by decide +kernel, by decide, ?_⟩
  walk_at "wd"
  refine ⟨_, [1, 1, 3], rfl, .inl rfl, by decide +kernel, by decide, ?_⟩
  walk_at "wd"
  refine ⟨_, [-2], rfl, .inl rfl, by decide +kernel, by decide, ?_⟩
  walk_at "wd"
  refine ⟨_, 3, [[1, 1, 3], [0, 2, 3]], rfl, tup_train [[1, 1, 3], [0, 2, 3]], ok_train (ws := [[1, 1, 3], [0, 2, 3]]) (by decide) (by decide), ⟨by decide, by decide, by decide, by decide +kernel⟩, ?_⟩
  walk_at "wd"
  refine ⟨_, _, rfl, rfl, Nat.le_of_ble_eq_true rfl, ?_⟩
  walk_at "wd"
  refine ⟨_, 3, [[0, 2, 3], [1, 1, 3]], rfl, tup_train [[0, 2, 3], [1, 1, 3]], ok_train (ws := [[0, 2, 3], [1, 1, 3]]) (by decide) (by decide), ⟨by decide, by decide, by decide, by decide +kernel⟩, ?_⟩
  walk_at "wd"
  refine ⟨_, 3, [[1, 1, 3]], rfl, tup_train [[1, 1, 3]], ok_train (ws := [[1, 1, 3]]) (by decide) (by decide), ⟨by decide, by decide, by decide, by decide +kernel⟩, ?_⟩
  walk_at "wd"
  refine ⟨_, _, rfl, rfl, Nat.le_of_ble_eq_true rfl, ?_⟩
  walk_at "wd"
  refine ⟨_, _, rfl, rfl, Nat.le_of_ble_eq_true rfl, ?_⟩
  walk_at "wd"
  refine ⟨_, [1, 1, 3], 0, rfl, .inl rfl, by decide +kernel, by decide, ?_⟩
  walk_at "wd"
  refine ⟨_, [1, 1, 3], 1, rfl, .inl rfl, by decide +kernel, by decide, ?_⟩
  walk_at "wd"
  refine ⟨_, [1, 1, 3], 2, rfl, .inl rfl, by decide +kernel, by decide, ?_⟩
  walk_at "wd"
  refine ⟨_, [1, 1, 3], 3, rfl, .inl rfl, by decide +kernel, by decide, ?_⟩
  walk_at "wd"
  refine ⟨_, _, rfl, rfl, ⟨by decide, by decide, by decide⟩, rfl, ?_⟩
  rw [ten30]
  walk_at "wd"
  refine ⟨_, [1, 1], 1000000000000000000000000000000, rfl, .inl rfl, by decide +kernel, by decide, ?_⟩
  rw [pw_halves _ (by decide)]
  walk_at "wd"
  refine ⟨_, _, rfl, rfl, Nat.le_of_ble_eq_true rfl, ?_⟩
  walk_at "wd"
  refine ⟨_, _, rfl, rfl, ⟨by decide, by decide, by decide⟩, rfl, ?_⟩
  rw [ten30]
  walk_at "wd"
  refine ⟨_, [3], 1000000000000000000000000000000, rfl, .inl rfl, by decide +kernel, by decide, ?_⟩
  rw [pw_3]
  walk_at "wd"
  refine ⟨_, _, rfl, rfl, ⟨by decide, by decide, by decide⟩, rfl, ?_⟩
  rw [ten30]
  walk_at "wd"
  refine ⟨_, [1, 2, 3], 1000000000000000000000000000000, rfl, .inl rfl, by decide +kernel, by decide, ?_⟩
  rw [pw_123]
  walk_at "wd"
  refine ⟨_, _, rfl, rfl, Nat.le_of_ble_eq_true rfl, ?_⟩
  walk_at "wd"
  refine ⟨_, _, rfl, rfl, ⟨by decide, by decide, by decide⟩, rfl, ?_⟩
  rw [ten30]
  walk_at "wd"
  refine ⟨_, [1, 2, 3], 1000000000000000000000000000000, rfl, .inl rfl, by decide +kernel, by decide, ?_⟩
  rw [pw_123]
  walk_at "wd"
  refine .inl ⟨[1000000000000000000000000000000, 1000000000000000000000000000001, 1000000000000000000000000000002], rfl, by decide, ?_⟩
  rw [show isWb [1000000000000000000000000000000, 1000000000000000000000000000001, 1000000000000000000000000000002] = true by decide +kernel]
  walk_at "wd"
  refine .inl ⟨3, [[1000000000000000000000000000000, 1000000000000000000000000000001, 1000000000000000000000000000002], [0, 0, 3]], rfl, ⟨by decide, by decide, by decide, by decide +kernel⟩, ?_⟩
  walk_at "wd"
  refine ⟨_, [1000000000000000000000000000000, 1000000000000000000000000000001, 1000000000000000000000000000002], 1, rfl, .inl rfl, by decide +kernel, by decide, ?_⟩
  walk_at "wd"
  refine ⟨_, _, rfl, rfl, Nat.le_of_ble_eq_true rfl, ?_⟩
  walk_at "wd"
  refine ⟨_, 3, [[1000000000000000000000000000000, 1000000000000000000000000000001, 1000000000000000000000000000002], [0, 0, 3]], rfl, tup_train [[1000000000000000000000000000000, 1000000000000000000000000000001, 1000000000000000000000000000002], [0, 0, 3]], ok_train (ws := [[1000000000000000000000000000000, 1000000000000000000000000000001, 1000000000000000000000000000002], [0, 0, 3]]) (by decide) (by decide), ⟨by decide, by decide, by decide, by decide +kernel⟩, ?_⟩
  walk_at "wd"
  refine ⟨_, [1000000000000000000000000000000, 1000000000000000000000000000001, 1000000000000000000000000000002], 2, rfl, .inl rfl, by decide +kernel, by decide, ?_⟩
  rw [pw_great2]
  walk_at "wd"
  refine ⟨_, _, _, rfl, rfl, rfl, ?_⟩
  walk_at "wd"
  refine ⟨_, _, rfl, rfl, ⟨by decide, by decide, by decide⟩, rfl, ?_⟩
  rw [ten6]
  walk_at "wd"
  refine ⟨2, 1000000, rfl, by decide, ?_⟩
  walk_at "wd"
  refine ⟨_, _, rfl, rfl, Nat.le_of_ble_eq_true rfl, ?_⟩
  walk_at "wd"
  refine ⟨_, _, rfl, rfl, .inl ⟨by decide, by decide⟩, rfl, ?_⟩
  walk_at "wd"
  refine ⟨_, _, rfl, rfl, Nat.le_of_ble_eq_true rfl, ?_⟩
  walk_at "wd"
  refine ⟨_, _, rfl, rfl, Nat.le_of_ble_eq_true rfl, ?_⟩
  walk_at "wd"
  refine ⟨_, _, rfl, rfl, .inl ⟨by decide, by decide⟩, rfl, ?_⟩
  walk_at "wd"
  refine ⟨_, _, rfl, rfl, ⟨by decide, by decide, by decide⟩, rfl, ?_⟩
  rw [ten6]
  walk_at "wd"
  refine ⟨_, _, rfl, rfl, ⟨by decide, by decide, by decide⟩, rfl, ?_⟩
  rw [ten6]
  walk_at "wd"
  refine ⟨_, _, rfl, rfl, Nat.le_of_ble_eq_true rfl, ?_⟩
  walk_at "wd"
  all_goals first | exact h | exact ⟨by apply okS_of; decide +kernel, h⟩
end
end BW

set_option Elab.async false
set_option linter.all false
set_option maxRecDepth 100000
set_option maxHeartbeats 8000000
namespace BW
open PySem PySem.Spec PyProof.Rows L2
local macro_rules | `(tactic| walk_at "wd") => `(tactic| (repeat (first
  | with_reducible refine ws_seq ?_
  | with_reducible refine ws_ret ?_
  | with_reducible refine ws_set ?_
  | with_reducible refine ws_par ?_
  | with_reducible refine ws_next ?_
  | with_reducible refine we_lenM (by with_unfolding_all rfl) ?_
  | with_reducible refine we_tupM (by with_unfolding_all rfl) ?_
  | with_reducible refine we_ixM (by with_unfolding_all rfl) ?_
  | with_reducible refine we_var (by with_unfolding_all rfl) ?_
  | with_reducible refine we_int ?_
  | with_reducible refine we_bl ?_
  | with_reducible refine we_str ?_
  | with_reducible refine we_non ?_
  | with_reducible refine wa_cons ?_
  | with_reducible refine wa_nil ?_
  | with_reducible refine we_tup ?_
  | with_reducible refine we_lst ?_
  | with_reducible refine we_call ?_
  | with_reducible refine we_op2 rd_i0 ?_
  | with_reducible refine we_op2 rd_i ?_
  | with_reducible refine we_op2 rd_ixT ?_
  | with_reducible refine we_op2 rd_ixL ?_
  | with_reducible refine we_op2 rd_cat ?_
  | with_reducible refine we_neg ?_
  | with_reducible refine we_cb cd_len ?_
  | with_reducible refine we_cb cd_list ?_
  | with_reducible refine we_cb cd_tuple ?_
  | with_reducible refine we_cb cd_all ?_
  | with_reducible refine we_cb cd_divmod ?_
  | with_reducible refine we_isi (by decide) ?_
  | with_reducible refine we_isi2 (by decide) (by decide) ?_
  | with_reducible refine we_if ?_
  | with_reducible refine ws_if ?_
  | with_reducible refine wt_b ?_
  | with_reducible refine wt_test ?_
  | with_reducible refine wt_not ?_
  | with_reducible refine wt_or ?_
  | with_reducible refine wt_and ?_
  | with_reducible refine we_notV ?_
  | with_reducible refine we_andV ?_
  | with_reducible refine we_orV ?_
  | with_reducible refine we_back ?_
  | with_reducible refine wo_none ?_
  | with_reducible refine wo_some ?_
  | with_reducible refine ⟨_, _, rfl, rfl, rfl, ?_⟩
  | with_reducible refine ⟨by with_unfolding_all rfl, ?_⟩
  | refine ⟨_, rfl, ?_⟩
  | with_reducible refine ⟨_, _, rfl, ?_⟩
  | refine ⟨_, _, rfl, Or.inr rfl, ?_⟩
  | refine ⟨_, _, rfl, Or.inl rfl, ?_⟩
  | refine ⟨Nat.le_of_ble_eq_true (by with_unfolding_all rfl), ?_⟩
  )))
theorem okS_dT {w : List Int} (h : w.length ≤ 1000) (k : Nat) : okS (k + 1) (dT w) := by
  refine ⟨by rw [List.length_map]; exact h, fun x hx => ?_⟩
  obtain ⟨i, _, rfl⟩ := List.mem_map.mp hx
  cases k <;> rfl
theorem okS_dL {w : List Int} (h : w.length ≤ 1000) (k : Nat) : okS (k + 1) (dL w) := by
  refine ⟨by rw [List.length_map]; exact h, fun x hx => ?_⟩
  obtain ⟨i, _, rfl⟩ := List.mem_map.mp hx
  cases k <;> rfl
theorem okS_int (i : Int) (k : Nat) : okS k (.int i) := by cases k <;> rfl
theorem okS_bool (i : Bool) (k : Nat) : okS k (.bool i) := by cases k <;> rfl
theorem okS_list {k : Nat} {ds : List PyData} (h : ds.length ≤ 1000) (hk : ∀ x ∈ ds, okS k x) : okS (k + 1) (.list ds) := ⟨h, hk⟩
theorem heard_own {N : Nat} {w : List Int} (h : w.length = N) : heardD w = if decide (w = shf N (w.getD 0 0)) = true then .int (w.getD 0 0) else .list [.str "cannot", .bool true] := by
  unfold heardD isSh
  rw [h]
theorem heard_shf {N : Nat} (hN : 0 < N) (m : Int) : heardD (shf N m) = .int m := by
  have e : (shf N m).getD 0 0 = m := by
    rw [shf_getD hN]
    exact Int.add_zero m
  rw [heard_own (shf_length N m), e, decide_eq_true rfl]
  rfl
theorem both_ways {m : Option Addr} {te tf : TE} {l : List Sl} {n : Nat} {p : Bool} {Φ : PyP} (d : PyData) (h1 : p = true → ∀ Φ' : PyP, Φ' d n → WE m te l n Φ') (h2 : p = false → ∀ Φ' : PyP, Φ' d n → WE m tf l n Φ') (h : Φ d n) :
    (p = true → WE m te l n Φ) ∧ (p = false → WE m tf l n Φ) := ⟨fun e => h1 e Φ h, fun e => h2 e Φ h⟩
theorem ten12 : (10 : Int) ^ Int.toNat 12 = 1000000000000 := by decide +kernel
theorem ten20 : (10 : Int) ^ Int.toNat 20 = 100000000000000000000 := by decide +kernel
theorem ten29 : (10 : Int) ^ Int.toNat 29 = 100000000000000000000000000000 := by decide +kernel
theorem tup_trainL (ws : List (List Int)) : tupD (.list (ws.map dL)) = .tuple (ws.map dT) := by
  rw [tupD_list, List.map_map]
  congr 1
  apply List.map_congr_left
  intro u _
  exact tupD_dL u
theorem ok_trainL {ws : List (List Int)} (h1 : ws.length ≤ 1000) (h2 : ∀ w ∈ ws, w.length ≤ 1000) : okD 2 (.list (ws.map dL)) := by
  refine ⟨by rw [List.length_map]; exact h1, fun x hx => ?_⟩
  obtain ⟨u, hu, rfl⟩ := List.mem_map.mp hx
  exact IsD.ok (.inr rfl) (h2 u hu) 0
section
variable {P : Program} {w : World} {K : PySem.W.Frag} {mg : Str → Option Value} {base : Heap} {C : Addr}
def R_right (ds : List PyData) (Φ : PyData → Prop) : Prop := Φ (.bool true)
theorem dn_right (T : Txt K mg) (TC : TxtC K mg C) : Dn P w K mg base CX0 "_law_right" 7 ["_law_tin"] (spT 60 0 R_right) := by
  have D_leads := dn_leads (P := P) (w := w) (base := base) T
  have D_shift := dn_shift (P := P) (w := w) (base := base) T
  have D_is_shift := dn_is_shift (P := P) (w := w) (base := base) T
  have D__law_heard := dn_heard (P := P) (w := w) (base := base) T TC
  have D_put_together := dn_put_together (P := P) (w := w) (base := base) T
  have D_power := dn_power (P := P) (w := w) (base := base) T
  have D_is_wheel := dn_is_wheel (P := P) (w := w) (base := base) T
  have D_is_train := dn_is_train (P := P) (w := w) (base := base) T
  have D__law_same := dn_same (P := P) (w := w) (base := base) T 2
  have D__law_take := dn_take (P := P) (w := w) (base := base) T
  have D__law_of := dn_of (P := P) (w := w) (base := base) T
  have D__law_disks := dn_disks (P := P) (w := w) (base := base) T
  have D__law_put := dn_lawput (P := P) (w := w) (base := base) T
  have D__law_led := dn_lawled (P := P) (w := w) (base := base) T
  have D__law_shift := dn_lawshift (P := P) (w := w) (base := base) T
  have D__law_lists := dn_lists (P := P) (w := w) (base := base) T 2
  have D__law_far := dn_far (P := P) (w := w) (base := base) T
  refine Dn.of T.f__law_right (fun f fd F => F.ok sc__law_right (fun vs H Q E h => spT_len h) (fun cdv A outer s H vs Q E hr h => ⟨_, (pss_cons (ps_set (i := 1) sc__law_right.nd rfl (Or.inl rfl) (pe_op op_add pe_int (pe_dn D__law_take (hr.mono (by omega)) (pa_cons (pv 0) (pa_cons pe_int pa_nil))))) (pss_cons (ps_set (i := 2) sc__law_right.nd rfl (Or.inl rfl) (pe_dn D__law_disks (hr.mono (by omega)) (pa_cons (pv 0) (pa_cons (pv 1) (pa_cons (pe_op op_add pe_int (pe_dn D__law_take (hr.mono (by omega)) (pa_cons (pv 0) (pa_cons pe_int pa_nil)))) pa_nil))))) (pss_cons (ps_asg (pe_tup (pa_cons (pe_ix (ixT_K (K := K)) (pv 2) pe_int (fun _ _ => rfl)) (pa_cons (pe_dn D__law_put (hr.mono (by omega)) (pa_cons (pv 2) pa_nil)) pa_nil))) (pg_tup (n := 2) rfl (pgs_cons (pg_name (i := 11) sc__law_right.nd rfl (Or.inr rfl)) (pgs_cons (pg_name (i := 12) sc__law_right.nd rfl (Or.inl rfl)) pgs_nil)))) (pss_cons (ps_set (i := 3) sc__law_right.nd rfl (Or.inl rfl) (pe_lst (pa_cons (pe_dn D_put_together (hr.mono (by omega)) (pa_cons (pe_dn D__law_lists (hr.mono (by omega)) (pa_cons (pv 2) pa_nil)) pa_nil)) (pa_cons (pe_dn D_is_train (hr.mono (by omega)) (pa_cons (pv 2) pa_nil)) (pa_cons (pe_dn D_is_train (hr.mono (by omega)) (pa_cons (pe_callTy (list_K (K := K)) (by rfl) T.b_list (by decide +kernel) (pa_cons (pv 2) pa_nil)) pa_nil)) (pa_cons (pe_dn D_is_wheel (hr.mono (by omega)) (pa_cons (pv 12) pa_nil)) pa_nil)))))) (pss_cons (ps_set (i := 3) sc__law_right.nd rfl (Or.inl rfl) (pe_op op_cat (pv 3) (pe_lst (pa_cons (pe_dn D_is_wheel (hr.mono (by omega)) (pa_cons (pe_callTy (list_K (K := K)) (by rfl) T.b_list (by decide +kernel) (pa_cons (pv 12) pa_nil)) pa_nil)) pa_nil)))) (pss_cons (ps_if (pt_not (pt_val (pe_dn D__law_same (hr.mono (by omega)) (pa_cons (pv 3) (pa_cons (pe_lst (pa_cons (pv 12) (pa_cons pe_bl (pa_cons pe_bl (pa_cons pe_bl (pa_cons pe_bl pa_nil)))))) pa_nil))))) (pss_one (ps_ret pe_bl)) pss_nil) (pss_cons (ps_setLc (i := 4) (own := [("_law_lap", 8)]) (g := gName 8) (tt := tYes) rfl sc__law_right.nd rfl rfl (sw_true rfl rfl rfl (by decide +kernel)) (pi_range1 (by rfl) T.b_range (pa_cons pe_int pa_nil)) (blkOk_by (N := n__law_right) (sc := defScope s__law_right) (by decide +kernel)) (fun _ _ _ _ _ => (pg_name (i := 8) sc__law_right.nd rfl (Or.inl rfl))) (fun _ _ _ _ _ => pts_nil) (fun _ _ _ _ _ => (pe_op op_sub (pe_dn D__law_take (hr.mono (by omega)) (pa_cons (pv 0) (pa_cons pe_int pa_nil))) pe_int))) (pss_cons (ps_if (pt_not (pt_val (pe_dn D__law_same (hr.mono (by omega)) (pa_cons (pe_lc (own := [("_law_n", 13)]) (g := gName 13) (tt := tYes) rfl sc__law_right.nd (piL_K (K := K) (pv 4)) (blkOk_by (N := n__law_right) (sc := defScope s__law_right) (by decide +kernel)) (fun _ _ _ _ _ => (pg_name (i := 13) sc__law_right.nd rfl (Or.inl rfl))) (fun _ _ _ _ _ => pts_nil) (fun _ _ _ _ _ => (pe_dn D_leads (hr.mono (by omega)) (pa_cons (pe_callTy (list_K (K := K)) (by rfl) T.b_list (by decide +kernel) (pa_cons (pv 11) pa_nil)) (pa_cons (pv 13) pa_nil))))) (pa_cons (pe_lc (own := [("_law_n", 13)]) (g := gName 13) (tt := tYes) rfl sc__law_right.nd (piL_K (K := K) (pv 4)) (blkOk_by (N := n__law_right) (sc := defScope s__law_right) (by decide +kernel)) (fun _ _ _ _ _ => (pg_name (i := 13) sc__law_right.nd rfl (Or.inl rfl))) (fun _ _ _ _ _ => pts_nil) (fun _ _ _ _ _ => (pe_dn D__law_led (hr.mono (by omega)) (pa_cons (pv 11) (pa_cons (pv 13) pa_nil))))) pa_nil))))) (pss_one (ps_ret pe_bl)) pss_nil) (pss_cons (ps_set (i := 5) sc__law_right.nd rfl (Or.inl rfl) (pe_op op_sub (pe_dn D__law_take (hr.mono (by omega)) (pa_cons (pv 0) (pa_cons pe_int pa_nil))) pe_int)) (pss_cons (ps_set (i := 6) sc__law_right.nd rfl (Or.inl rfl) (pe_cmpR (eqD_K (K := K) hr.units) (pv 11) (pe_dn D__law_shift (hr.mono (by omega)) (pa_cons (pv 1) (pa_cons (pe_ix (ixT_K (K := K)) (pv 11) pe_int (fun _ _ => rfl)) pa_nil))) (nomark _))) (pss_cons (ps_set (i := 3) sc__law_right.nd rfl (Or.inl rfl) (pe_lst (pa_cons (pe_dn D_shift (hr.mono (by omega)) (pa_cons (pv 1) (pa_cons (pv 5) pa_nil))) (pa_cons (pe_dn D_is_shift (hr.mono (by omega)) (pa_cons (pe_callTy (list_K (K := K)) (by rfl) T.b_list (by decide +kernel) (pa_cons (pv 11) pa_nil)) pa_nil)) (pa_cons (pe_dn D__law_heard (hr.mono (by omega)) (pa_cons (pe_callTy (list_K (K := K)) (by rfl) T.b_list (by decide +kernel) (pa_cons (pv 11) pa_nil)) pa_nil)) (pa_cons (pe_dn D__law_heard (hr.mono (by omega)) (pa_cons (pe_dn D__law_shift (hr.mono (by omega)) (pa_cons (pv 1) (pa_cons (pv 5) pa_nil))) pa_nil)) pa_nil)))))) (pss_cons (ps_if (pt_not (pt_val (pe_dn D__law_same (hr.mono (by omega)) (pa_cons (pv 3) (pa_cons (pe_lst (pa_cons (pe_dn D__law_shift (hr.mono (by omega)) (pa_cons (pv 1) (pa_cons (pv 5) pa_nil))) (pa_cons (pv 6) (pa_cons (pe_ifExp (pt_val (pv 6)) (pe_ix (ixT_K (K := K)) (pv 11) pe_int (fun _ _ => rfl)) (pe_lst (pa_cons pe_str (pa_cons pe_bl pa_nil)))) (pa_cons (pv 5) pa_nil))))) pa_nil))))) (pss_one (ps_ret pe_bl)) pss_nil) (pss_cons (ps_par (i := 13) (j := 14) rfl sc__law_right.nd rfl rfl (by decide) rfl rfl (pa_cons (pe_dn D__law_take (hr.mono (by omega)) (pa_cons (pv 0) (pa_cons pe_int pa_nil))) (pa_cons (pe_dn D__law_take (hr.mono (by omega)) (pa_cons (pv 0) (pa_cons pe_int pa_nil))) pa_nil)) (by rfl)) (pss_cons (ps_set (i := 7) sc__law_right.nd rfl (Or.inl rfl) (pe_dn D__law_shift (hr.mono (by omega)) (pa_cons (pv 1) (pa_cons pe_int pa_nil)))) (pss_cons (ps_for PassesOwn.never rfl (pi_range1 (by rfl) T.b_range (pa_cons (pv 13) pa_nil)) (pg_name (i := 8) sc__law_right.nd rfl (Or.inl rfl)) (pss_one (ps_set (i := 7) sc__law_right.nd rfl (Or.inl rfl) (pe_callTy (tuple_K (K := K)) (by rfl) T.b_tuple (by decide +kernel) (pa_cons (pe_lc (own := [("_law_z", 15)]) (g := gName 15) (tt := tYes) rfl sc__law_right.nd (piT_K (K := K) (pv 7)) (blkOk_by (N := n__law_right) (sc := defScope s__law_right) (by decide +kernel)) (fun _ _ _ _ _ => (pg_name (i := 15) sc__law_right.nd rfl (Or.inl rfl))) (fun _ _ _ _ _ => pts_nil) (fun _ _ _ _ _ => (pe_dn D__law_led (hr.mono (by omega)) (pa_cons (pv 11) (pa_cons (pv 15) pa_nil))))) pa_nil))))) (pss_cons (ps_set (i := 9) sc__law_right.nd rfl (Or.inl rfl) (pv 7)) (pss_cons (ps_for PassesOwn.never rfl (pi_range1 (by rfl) T.b_range (pa_cons (pv 14) pa_nil)) (pg_name (i := 8) sc__law_right.nd rfl (Or.inl rfl)) (pss_one (ps_set (i := 9) sc__law_right.nd rfl (Or.inl rfl) (pe_callTy (tuple_K (K := K)) (by rfl) T.b_tuple (by decide +kernel) (pa_cons (pe_lc (own := [("_law_z", 15)]) (g := gName 15) (tt := tYes) rfl sc__law_right.nd (piT_K (K := K) (pv 9)) (blkOk_by (N := n__law_right) (sc := defScope s__law_right) (by decide +kernel)) (fun _ _ _ _ _ => (pg_name (i := 15) sc__law_right.nd rfl (Or.inl rfl))) (fun _ _ _ _ _ => pts_nil) (fun _ _ _ _ _ => (pe_dn D__law_led (hr.mono (by omega)) (pa_cons (pv 11) (pa_cons (pv 15) pa_nil))))) pa_nil))))) (pss_cons (ps_set (i := 10) sc__law_right.nd rfl (Or.inr rfl) (pe_op op_add (pe_dn D__law_take (hr.mono (by omega)) (pa_cons (pv 0) (pa_cons (pe_op op_pow pe_int pe_int) pa_nil))) (pe_dn D__law_of (hr.mono (by omega)) (pa_cons (pv 0) (pa_cons (pe_lst (pa_cons pe_int (pa_cons (pe_op op_pow pe_int pe_int) (pa_cons (pe_op op_pow pe_int pe_int) (pa_cons (pe_op op_pow pe_int pe_int) (pa_cons (pe_op op_pow pe_int pe_int) pa_nil)))))) pa_nil))))) (pss_cons (ps_set (i := 3) sc__law_right.nd rfl (Or.inl rfl) (pe_lst (pa_cons (pe_dn D_power (hr.mono (by omega)) (pa_cons (pv 11) (pa_cons (pv 13) pa_nil))) (pa_cons (pe_dn D_power (hr.mono (by omega)) (pa_cons (pe_callTy (list_K (K := K)) (by rfl) T.b_list (by decide +kernel) (pa_cons (pv 11) pa_nil)) (pa_cons (pe_op op_add (pv 13) (pv 14)) pa_nil))) (pa_cons (pe_dn D_put_together (hr.mono (by omega)) (pa_cons (pe_tup (pa_cons (pe_dn D_power (hr.mono (by omega)) (pa_cons (pv 11) (pa_cons (pv 14) pa_nil))) (pa_cons (pe_dn D_power (hr.mono (by omega)) (pa_cons (pv 11) (pa_cons (pv 13) pa_nil))) pa_nil))) pa_nil)) (pa_cons (pe_dn D_power (hr.mono (by omega)) (pa_cons (pv 11) (pa_cons (pv 10) pa_nil))) pa_nil)))))) (pss_one (ps_ret (pe_dn D__law_same (hr.mono (by omega)) (pa_cons (pv 3) (pa_cons (pe_lst (pa_cons (pv 7) (pa_cons (pv 9) (pa_cons (pv 9) (pa_cons (pe_callTy (tuple_K (K := K)) (by rfl) T.b_tuple (by decide +kernel) (pa_cons (pe_lc (own := [("_law_z", 15)]) (g := gName 15) (tt := tYes) rfl sc__law_right.nd (pi_range1 (by rfl) T.b_range (pa_cons (pv 1) pa_nil)) (blkOk_by (N := n__law_right) (sc := defScope s__law_right) (by decide +kernel)) (fun _ _ _ _ _ => (pg_name (i := 15) sc__law_right.nd rfl (Or.inl rfl))) (fun _ _ _ _ _ => pts_nil) (fun _ _ _ _ _ => (pe_dn D__law_far (hr.mono (by omega)) (pa_cons (pv 11) (pa_cons (pv 15) (pa_cons (pv 10) pa_nil)))))) pa_nil)) pa_nil))))) pa_nil)))))))))))))))))))))))), fn_T h ?_⟩)) (fun f fd F => F.binds fun _ _ _ _ _ _ us hl => match us, hl with | [_], _ => rfl)
  intro a ds n Φ hds hn h
  obtain rfl : ds = [] := List.length_eq_zero_iff.mp hds
  walk_at "wd"
  refine we_callT rfl ?_
  walk_at "wd"
  refine ⟨by omega, _, rfl, by decide, by decide, fun r r0 r1 => ?_⟩
  walk_at "wd"
  obtain ⟨N, hN⟩ : ∃ N : Nat, 1 + r = (N : Int) := ⟨(1 + r).toNat, by omega⟩
  rw [hN]
  have hN1 : 1 ≤ N := by omega
  have hN9 : N ≤ 9 := by omega
  refine we_callT rfl ?_
  walk_at "wd"
  refine we_callT rfl ?_
  walk_at "wd"
  refine ⟨by omega, _, rfl, by decide, by decide, fun q q0 q1 => ?_⟩
  walk_at "wd"
  obtain ⟨M, hM⟩ : ∃ M : Nat, 1 + q = (M : Int) := ⟨(1 + q).toNat, by omega⟩
  rw [hM]
  refine ⟨by omega, N, M, rfl, hN1, hN9, by omega, by omega, fun ws hws hdr => ?_⟩
  have hall : AllW N ws := ⟨fun e => by rw [e] at hws; simp at hws; omega, by omega, by omega, fun u hu => ⟨(hdr u hu).wb, (hdr u hu).len⟩⟩
  have hlen : ∀ u ∈ ws, u.length ≤ 1000 := fun u hu => by rw [(hdr u hu).len]; omega
  obtain ⟨own, rest, hor⟩ : ∃ own rest, ws = own :: rest := by
    cases ws with
    | nil => exact absurd rfl hall.1
    | cons a b => exact ⟨a, b, rfl⟩
  have hown := hdr own (by rw [hor]; exact List.mem_cons_self)
  have hat : L2.atI (ws.map dT) 0 = some (dT own) := by rw [hor]; exact atI_nat (j := 0) rfl
  refine ws_seq (ws_asg (tg_pair (by decide)) ?_)
  walk_at "wd"
  refine ⟨_, _, _, rfl, rfl, hat, ?_⟩
  walk_at "wd"
  refine ⟨N, ws, rfl, hall, ?_⟩
  walk_at "wd"
  refine ⟨⟨_, _, rfl⟩, ?_⟩
  walk_at "wd"
  refine ⟨ok_train hall.2.1 hlen, ?_⟩
  rw [lstD_train]
  walk_at "wd"
  refine ⟨_, N, ws, rfl, tup_trainL ws, ok_trainL hall.2.1 hlen, hall, ?_⟩
  have hput := putIn_isW hall.1 fun u hu => ⟨(isWb_iff u).mp (hdr u hu).wb, (hdr u hu).len⟩
  rw [putIn_eq hall.1 fun u hu => (hdr u hu).len] at hput ⊢
  walk_at "wd"
  refine .inl ⟨N, ws, rfl, hall, ?_⟩
  walk_at "wd"
  refine .inr ⟨_, rfl, ?_⟩
  walk_at "wd"
  refine .inl ⟨putL N ws, rfl, by omega, ?_⟩
  rw [(isWb_iff _).mpr hput.1]
  walk_at "wd"
  refine .inr ⟨_, rfl, ?_⟩
  walk_at "wd"
  refine ⟨_, _, rfl, rfl, Nat.le_of_ble_eq_true rfl, ?_⟩
  walk_at "wd"
  refine ⟨okS_list (Nat.le_of_ble_eq_true rfl) fun x hx => ?_, ?_⟩
  · simp only [List.cons_append, List.nil_append, List.mem_cons, List.not_mem_nil, or_false] at hx
    rcases hx with rfl | rfl | rfl | rfl | rfl <;> first | exact okS_bool _ _ | exact okS_dT (by omega) _
  refine ⟨_, rfl, fun e => (by cases e), fun _ => ?_⟩
  walk_at "wd"
  refine we_lc (tg_name 8) (WI.t (wi_rngN ?_))
  walk_at "wd"
  refine ⟨fun _ _ => trivial, lc_any (P := fun y => ∃ r, y = .int r ∧ (-90 ≤ r ∧ r < 200)) (c := 1) (fun y hy n' Φ2 hn' h2 => ?_) fun out ho hp => ?_⟩
  · refine we_op2 rd_i0 ?_
    refine we_callT rfl ?_
    walk_at "wd"
    simp at hn'
    refine ⟨by omega, _, rfl, by decide, by decide, fun t t0 t1 => ?_⟩
    walk_at "wd"
    exact h2 _ ⟨_, rfl, by omega, by omega⟩
  rw [show (List.map (fun (i : Nat) => PyData.int (0 + (i : Int))) (List.range 5)).length * 1 = 5 from rfl]
  obtain ⟨ns, rfl, hns⟩ := ints_of hp
  have hns5 : ns.length = 5 := by simpa using ho
  have hownl : own.length ≤ 1000 := by rw [hown.len]; omega
  have hownn : own ≠ [] := isWb_nn hown.wb
  walk_at "wd"
  refine we_lc (tg_name 13) (WI.t (wi_list ?_))
  walk_at "wd"
  refine ⟨by simp; omega, fun _ _ => trivial, lc_map (g := fun d => match d with | .int z => PyData.int (led own z) | _ => .none) (fun y hy n' Φ2 h2 => ?_) ?_⟩
  · obtain ⟨z, _, rfl⟩ := List.mem_map.mp hy
    walk_at "wd"
    exact ⟨_, own, z, rfl, .inr rfl, hown.wb, hownl, h2⟩
  walk_at "wd"
  refine we_lc (tg_name 13) (WI.t (wi_list ?_))
  walk_at "wd"
  refine ⟨by simp; omega, fun _ _ => trivial, lc_map (g := fun d => match d with | .int z => PyData.int (led own z) | _ => .none) (fun y hy n' Φ2 h2 => ?_) ?_⟩
  · obtain ⟨z, _, rfl⟩ := List.mem_map.mp hy
    walk_at "wd"
    exact ⟨own, z, rfl, hownn, hownl, h2⟩
  walk_at "wd"
  refine ⟨okS_list (by simp; omega) fun x hx => ?_, ?_⟩
  · rw [List.nil_append, List.nil_append, List.map_map] at hx
    obtain ⟨z, _, rfl⟩ := List.mem_map.mp hx
    exact okS_int _ _
  refine ⟨_, rfl, fun e => (by cases e), fun _ => ?_⟩
  walk_at "wd"
  refine we_callT rfl ?_
  walk_at "wd"
  refine ⟨by omega, _, rfl, by decide, by decide, fun m0 m00 m01 => ?_⟩
  walk_at "wd"
  generalize m0 - 20 = m
  refine we_op2 rd_eqD ?_
  walk_at "wd"
  refine ⟨_, _, _, rfl, rfl, at_ints (z := 0) (by decide) (by rw [hown.len]; omega), ?_⟩
  walk_at "wd"
  refine ⟨N, _, rfl, by omega, shaped_dT _, shaped_dT _, ?_⟩
  rw [eqv_dT, show Int.toNat 0 = 0 from rfl]
  walk_at "wd"
  refine ⟨N, m, rfl, by omega, ?_⟩
  walk_at "wd"
  refine ⟨hown.wb, hownl, ?_⟩
  rw [hown.len]
  walk_at "wd"
  refine ⟨hown.wb, hownl, ?_⟩
  walk_at "wd"
  refine ⟨N, m, rfl, by omega, ?_⟩
  walk_at "wd"
  refine ⟨(isWb_iff _).mpr (shf_isW (by omega) m), by rw [shf_length]; omega, ?_⟩
  rw [heard_shf (by omega)]
  walk_at "wd"
  refine ⟨N, m, rfl, by omega, ?_⟩
  walk_at "wd"
  refine both_ways (heardD own) (fun e Φ2 h2 => ?_) (fun e Φ2 h2 => ?_) ?_
  · walk_at "wd"
    rw [heard_own hown.len, e, if_pos rfl] at h2
    exact ⟨_, _, _, rfl, rfl, at_ints (z := 0) (by decide) (by rw [hown.len]; omega), h2⟩
  · walk_at "wd"
    rw [heard_own hown.len, e, if_neg (by decide)] at h2
    exact h2
  walk_at "wd"
  refine ⟨okS_list (Nat.le_of_ble_eq_true rfl) fun x hx => ?_, ?_⟩
  · simp only [List.mem_cons, List.not_mem_nil, or_false] at hx
    rcases hx with rfl | rfl | rfl | rfl
    · exact okS_dT (by rw [shf_length]; omega) _
    · exact okS_bool _ _
    · rw [heard_own hown.len]
      split
      · exact okS_int _ _
      · exact okS_of _ _ rfl
    · exact okS_int _ _
  refine ⟨_, rfl, fun e => (by cases e), fun _ => ?_⟩
  refine ws_next ?_
  generalize heardD own = g0
  generalize (.bool (decide (own = shf N (own.getD 0 0))) : PyData) = g1
  show WS (some a) _ [.tin, .d (.int (N : Int)), .d (.tuple (ws.map dT)), .d _, .d _, .d (.int m), .d _, .un, .un, .un, .un, .d (dT own), .d (dT (putL N ws)), .un, .un, .un] (n + 1 + 1 + 48 + 5 + 1) _ _
  walk_at "wd"
  refine we_callT rfl ?_
  walk_at "wd"
  refine ⟨by omega, _, rfl, by decide, by decide, fun r1 r10 r11 => ?_⟩
  obtain ⟨j, rfl⟩ : ∃ j : Nat, r1 = (j : Int) := ⟨r1.toNat, by omega⟩
  walk_at "wd"
  refine we_callT rfl ?_
  walk_at "wd"
  refine ⟨by omega, _, rfl, by decide, by decide, fun r2 r20 r21 => ?_⟩
  obtain ⟨k, rfl⟩ : ∃ k : Nat, r2 = (k : Int) := ⟨r2.toNat, by omega⟩
  walk_at "wd"
  refine ⟨N, 0, rfl, by omega, ?_⟩
  rw [show shf N 0 = pw own 0 by rw [pw_zero, hown.len]]
  walk_at "wd"
  have lapped : ∀ (i : Nat) (l : List Sl) (s : Nat) (n' : Nat) (Φ : PyP), l[s]? = some (.d (dT (pw own i))) → s < 15 → l[11]? = some (.d (dT own)) → l.length = 16 → Φ (dT (pw own (i + 1))) n' →
      WE (some a) (tCB (fun xs H Q => ∃ p ys, xs = [.ref p] ∧ ((SqL K H p ys ∧ ∀ l, H l = none → Q (.ref l) (upd H l (.tup ys))) ∨ (SqT K H p ys ∧ Q (.ref p) H))) (tCons (tLc (iTup K (tVar s)) (gName 15) tYes (tCall (spD 2 R_led) [] E0 (tCons (tVar 11) (tCons (tVar 15) tNil))) [15]) tNil)) l n' Φ := by
    intro i l s n' Φ hs hs15 h11 hl hΦ
    refine we_cb cd_tuple ?_
    refine wa_cons (we_lc (tg_name 15) (WI.t (wi_tup (we_var hs ?_))))
    refine ⟨_, rfl, by rw [List.length_map, pw_length]; omega, fun _ _ => trivial, lc_map (g := fun d => match d with | .int z => PyData.int (led own z) | _ => .none) (fun y hy n' Φ2 h2 => ?_) ?_⟩
    · obtain ⟨z, _, rfl⟩ := List.mem_map.mp hy
      have e11 : ((wipeL l [15]).set 15 (.d (.int z)))[11]? = some (.d (dT own)) := by
        show ((l.set 15 .un).set 15 (.d (.int z)))[11]? = _
        rw [List.getElem?_set_ne (by decide), List.getElem?_set_ne (by decide)]
        exact h11
      have e15 : ((wipeL l [15]).set 15 (.d (.int z)))[15]? = some (.d (.int z)) := by
        show ((l.set 15 .un).set 15 (.d (.int z)))[15]? = _
        rw [List.getElem?_set_self (by rw [List.length_set]; omega)]
      refine we_call (wa_cons (we_var e11 (wa_cons (we_var e15 (wa_nil ?_)))))
      exact ⟨rfl, own, z, rfl, hownn, hownl, h2⟩
    · refine wa_nil ?_
      refine ⟨_, _, rfl, .inl rfl, ?_⟩
      have e : ((pw own i).map PyData.int).map (fun d => match d with | .int z => PyData.int (led own z) | _ => .none) = (pw own (i + 1)).map PyData.int := by
        rw [← pw_succ hownn, List.map_map, List.map_map]
        rfl
      rw [List.nil_append, e]
      exact hΦ
  generalize (PyData.list [dT (shf N m), g1, g0, PyData.int m]) = g3
  generalize (PyData.list ([] ++ List.map PyData.int ns)) = g4
  refine ws_for (tg_name 8) (wi_rngN ?_)
  walk_at "wd"
  refine ⟨by omega, fun _ _ => trivial, ?_⟩
  refine fr_inv (fun i l n' => ∃ s8, l = [.tin, .d (.int (N : Int)), .d (.tuple (ws.map dT)), .d g3, .d g4, .d (.int m), .d g1, .d (dT (pw own i)), s8, .un, .un, .d (dT own), .d (dT (putL N ws)), .d (.int (j : Int)), .d (.int (k : Int)), .un] ∧ n' = n + 1 + 1 + 48 + 5 + 1 + 1 + 1) ?_ ?_ ⟨.un, rfl, rfl⟩
  · rintro i d l n' hd ⟨s8, rfl, rfl⟩
    exact ws_set (lapped i _ 7 _ _ rfl (by decide) rfl rfl ⟨.d d, rfl, rfl⟩)
  rintro l n' ⟨s8, rfl, rfl⟩
  rw [List.length_map, List.length_range]
  walk_at "wd"
  refine ws_for (tg_name 8) (wi_rngN ?_)
  walk_at "wd"
  refine ⟨by omega, fun _ _ => trivial, ?_⟩
  refine fr_inv (fun i l n' => ∃ s8, l = [.tin, .d (.int (N : Int)), .d (.tuple (ws.map dT)), .d g3, .d g4, .d (.int m), .d g1, .d (dT (pw own j)), s8, .d (dT (pw own (j + i))), .un, .d (dT own), .d (dT (putL N ws)), .d (.int (j : Int)), .d (.int (k : Int)), .un] ∧ n' = n + 1 + 1 + 48 + 5 + 1 + 1 + 1) ?_ ?_ ⟨s8, rfl, rfl⟩
  · rintro i d l n' hd ⟨s8, rfl, rfl⟩
    exact ws_set (lapped (j + i) _ 9 _ _ rfl (by decide) rfl rfl ⟨.d d, rfl, rfl⟩)
  rintro l n' ⟨s8, rfl, rfl⟩
  rw [List.length_map, List.length_range]
  walk_at "wd"
  refine we_callT rfl ?_
  walk_at "wd"
  refine ⟨_, _, rfl, rfl, ⟨by decide, by decide, by decide⟩, rfl, ?_⟩
  rw [ten6]
  walk_at "wd"
  refine ⟨by omega, 1000000, rfl, by decide, by decide, fun r3 r30 r31 => ?_⟩
  walk_at "wd"
  refine we_callT rfl ?_
  walk_at "wd"
  refine ⟨_, _, rfl, rfl, ⟨by decide, by decide, by decide⟩, rfl, ?_⟩
  rw [ten6]
  walk_at "wd"
  refine ⟨_, _, rfl, rfl, ⟨by decide, by decide, by decide⟩, rfl, ?_⟩
  rw [ten12]
  walk_at "wd"
  refine ⟨_, _, rfl, rfl, ⟨by decide, by decide, by decide⟩, rfl, ?_⟩
  rw [ten20]
  walk_at "wd"
  refine ⟨_, _, rfl, rfl, ⟨by decide, by decide, by decide⟩, rfl, ?_⟩
  rw [ten29]
  walk_at "wd"
  refine ⟨by omega, [0, 1000000, 1000000000000, 100000000000000000000, 100000000000000000000000000000], rfl, by decide, by decide, fun r4 hr4 => ?_⟩
  have r40 : 0 ≤ r4 := (show ∀ z ∈ ([0, 1000000, 1000000000000, 100000000000000000000, 100000000000000000000000000000] : List Int), 0 ≤ z by decide) r4 hr4
  clear hr4
  walk_at "wd"
  obtain ⟨b, hb⟩ : ∃ b : Nat, r3 + r4 = (b : Int) := ⟨(r3 + r4).toNat, by omega⟩
  rw [hb]
  refine ⟨_, own, j, rfl, .inl rfl, hown.wb, hownl, ?_⟩
  walk_at "wd"
  refine ⟨_, own, j + k, by rw [Int.natCast_add]; rfl, .inr rfl, hown.wb, hownl, ?_⟩
  walk_at "wd"
  refine ⟨_, own, k, rfl, .inl rfl, hown.wb, hownl, ?_⟩
  walk_at "wd"
  refine ⟨_, own, j, rfl, .inl rfl, hown.wb, hownl, ?_⟩
  walk_at "wd"
  have hp2 : ∀ u ∈ [pw own k, pw own j], isWb u = true ∧ u.length = N := by
    have hw := (isWb_iff own).mp hown.wb
    intro u hu
    simp only [List.mem_cons, List.not_mem_nil, or_false] at hu
    rcases hu with rfl | rfl <;> exact ⟨(isWb_iff _).mpr (pw_isW hw _), by rw [pw_length, hown.len]⟩
  refine ⟨_, N, [pw own k, pw own j], rfl, tup_train [pw own k, pw own j], ok_train (ws := [pw own k, pw own j]) (Nat.le_of_ble_eq_true rfl) (fun u hu => by rw [(hp2 u hu).2]; omega), ⟨List.cons_ne_nil _ _, Nat.le_of_ble_eq_true rfl, by omega, hp2⟩, ?_⟩
  rw [show putIn [pw own k, pw own j] = pw own (j + k) by rw [Nat.add_comm]; exact beh_pw hownn k j]
  walk_at "wd"
  refine ⟨_, own, b, rfl, .inl rfl, hown.wb, hownl, ?_⟩
  walk_at "wd"
  refine we_lc (tg_name 15) (WI.t (wi_rngN ?_))
  walk_at "wd"
  refine ⟨by omega, by simp; omega, fun _ _ => trivial, lc_map (g := fun d => match d with | .int z => PyData.int (it (led own) b z) | _ => .none) (fun y hy n' Φ2 h2 => ?_) ?_⟩
  · obtain ⟨z, _, rfl⟩ := List.mem_map.mp hy
    walk_at "wd"
    exact ⟨own, _, b, rfl, hownn, by rw [hown.len]; omega, hown.small, h2⟩
  have efar : ((List.range N).map fun (i : Nat) => PyData.int (0 + (i : Int))).map (fun d => match d with | .int z => PyData.int (it (led own) b z) | _ => .none) = (pw own b).map PyData.int := by
    rw [rng_data]
    unfold pw
    rw [hown.len, List.map_map, List.map_map]
    rfl
  rw [List.nil_append, efar]
  walk_at "wd"
  refine ⟨okS_list (Nat.le_of_ble_eq_true rfl) fun x hx => ?_, ?_⟩
  · simp only [List.mem_cons, List.not_mem_nil, or_false] at hx
    rcases hx with rfl | rfl | rfl | rfl <;> exact okS_dT (by rw [pw_length]; omega) _
  exact ⟨h, by omega⟩
end
end BW

set_option Elab.async false
set_option linter.all false
set_option maxRecDepth 100000
set_option maxHeartbeats 8000000
namespace BW
open PySem PySem.Spec PyProof.Rows L2
local macro_rules | `(tactic| walk_at "wd") => `(tactic| (repeat (first
  | with_reducible refine ws_seq ?_
  | with_reducible refine ws_ret ?_
  | with_reducible refine ws_set ?_
  | with_reducible refine ws_par ?_
  | with_reducible refine ws_next ?_
  | with_reducible refine we_lenM (by with_unfolding_all rfl) ?_
  | with_reducible refine we_tupM (by with_unfolding_all rfl) ?_
  | with_reducible refine we_ixM (by with_unfolding_all rfl) ?_
  | with_reducible refine we_var (by with_unfolding_all rfl) ?_
  | with_reducible refine we_int ?_
  | with_reducible refine we_bl ?_
  | with_reducible refine we_str ?_
  | with_reducible refine we_non ?_
  | with_reducible refine wa_cons ?_
  | with_reducible refine wa_nil ?_
  | with_reducible refine we_tup ?_
  | with_reducible refine we_lst ?_
  | with_reducible refine we_call ?_
  | with_reducible refine we_op2 rd_i0 ?_
  | with_reducible refine we_op2 rd_i ?_
  | with_reducible refine we_op2 rd_ixT ?_
  | with_reducible refine we_op2 rd_ixL ?_
  | with_reducible refine we_op2 rd_cat ?_
  | with_reducible refine we_neg ?_
  | with_reducible refine we_cb cd_len ?_
  | with_reducible refine we_cb cd_list ?_
  | with_reducible refine we_cb cd_tuple ?_
  | with_reducible refine we_cb cd_all ?_
  | with_reducible refine we_cb cd_divmod ?_
  | with_reducible refine we_isi (by decide) ?_
  | with_reducible refine we_isi2 (by decide) (by decide) ?_
  | with_reducible refine we_if ?_
  | with_reducible refine ws_if ?_
  | with_reducible refine wt_b ?_
  | with_reducible refine wt_test ?_
  | with_reducible refine wt_not ?_
  | with_reducible refine wt_or ?_
  | with_reducible refine wt_and ?_
  | with_reducible refine we_notV ?_
  | with_reducible refine we_andV ?_
  | with_reducible refine we_orV ?_
  | with_reducible refine we_back ?_
  | with_reducible refine wo_none ?_
  | with_reducible refine wo_some ?_
  | with_reducible refine ⟨_, _, rfl, rfl, rfl, ?_⟩
  | with_reducible refine ⟨by with_unfolding_all rfl, ?_⟩
  | refine ⟨_, rfl, ?_⟩
  | with_reducible refine ⟨_, _, rfl, ?_⟩
  | refine ⟨_, _, rfl, Or.inr rfl, ?_⟩
  | refine ⟨_, _, rfl, Or.inl rfl, ?_⟩
  | refine ⟨Nat.le_of_ble_eq_true (by with_unfolding_all rfl), ?_⟩
  )))
section
variable {K : PySem.W.Frag} {l : List Sl} {n : Nat} {Φ : PyP} {ns : List Int} {i : Nat}
theorem we_cells {E : XK} (hi : l[i]? = some (.sq K ns)) (hl : ns.length ≤ 63) (h : ∀ cs : List Int, (cs.length = 1 ∨ cs.length = 2) → Φ (dL cs) n) : WE none (tCall (spCells K) [] E (tCons (tVar i) (tCons (tC (.int 2)) tNil))) l n Φ := fun B σ G H Q hs hw q => by
  obtain ⟨o, eo, a, rfl, _, _, hS⟩ := hs.at hi
  refine ⟨.ref a, eo, ?_⟩
  exact ⟨G, a, ns, hw.s, rfl, hS, hl, fun cs v G' H' hc t s x => q v _ n G' H' (h cs hc) t (hw.any t s) x⟩
/-- the draws of one cell: a new list that only the callee knows -/
theorem we_rb {E1 E2 : XK} {ta : TA} (h : WA none ta l n fun ds n' => ∃ (cs : List Int) (k : Nat), ds = [dL cs, .int (k : Int)] ∧ k < cs.length ∧ cs.length ≤ 1000 ∧ Φ (.bool true) n') :
    WE none (tCall (spT 60 0 R_right) [] E1 (tCons (tCall spBox [] E2 ta) tNil)) l n Φ := fun B σ G H Q hs hw q => by
  refine h B σ G H _ hs hw fun vs ds n1 G1 H1 h1 t1 w1 x1 => ?_
  obtain ⟨cs, k, rfl, hk, hl, hΦ⟩ := h1
  show spBox (vs ++ []) H1 _ E2
  rw [List.append_nil]
  refine ⟨G1, cs, k, w1.s, x1, hk, hl, fun p G' H' a b t2 s2 gp hp e => ?_⟩
  have g1p : G1 p = none := w1.s.free hp
  refine ⟨p, [], G', [], 0, fun d => d = .bool true, rfl, rfl, ⟨s2, fun t et => ?_⟩, by decide, dta_nil.mpr rfl, rfl, fun v d G2 H2 hd t3 w3 x3 => ?_⟩
  · cases et
    exact ⟨gp, a, b, 0, e, Int.le_refl 0, Int.le_refl 0⟩
  · subst hd
    have T : Tr none G1 H1 G2 H2 := ⟨t2.g.trans t3.g, fun c o _ ec => t3.k c o (fun z => by cases z; rw [hp] at ec; cases ec) (t2.k c o (by simp) ec), fun c hc => (t3.f c (t2.n c hc)).trans (t2.f c hc), fun c hc => t3.n c (t2.n c hc)⟩
    exact q v _ n1 G2 H2 hΦ (t1.trans T) (w1.any T w3.s) x3
end
section
variable {P : Program} {w : World} {K : PySem.W.Frag} {mg : Str → Option Value} {base : Heap} {C : Addr}
def spLaw (K : PySem.W.Frag) : Sp := fun vs H Q _ => ∃ (a : Addr) (ns : List Int), vs = [.ref a] ∧ SqL K H a (ns.map V.int) ∧ ns.length ≤ 63 ∧ ∀ H', Q (.bl true) H'
theorem ok_law {f : Addr} {fd : FuncData} (F : Fun K "law" "law" s_law f fd) (T : Txt K mg) (TC : TxtC K mg C) : FnOk P w K mg base CX0 8 f fd ["_law_script"] (spLaw K) := by
  have D__law_hand_right := dn_hand (P := P) (w := w) (base := base) T TC
  have D__law_cells := dn_cells (P := P) (w := w) (base := base) T
  have D__law_box := dn_box (P := P) (w := w) (base := base) T
  have D__law_right := dn_right (P := P) (w := w) (base := base) T TC
  refine F.ok sc_law (fun vs H Q E h => ?_) (fun cdv A outer s H vs Q E hr h => ⟨_, (pss_cons (ps_if (pt_not (pt_val (pe_dn0 D__law_hand_right (hr.mono (by omega))))) (pss_one (ps_ret pe_bl)) pss_nil) (pss_cons (ps_set (i := 1) sc_law.nd rfl (Or.inr rfl) (pe_dn D__law_cells (hr.mono (by omega)) (pa_cons (pv 0) (pa_cons pe_int pa_nil)))) (pss_one (ps_ret (pe_callB (all_K (K := K)) (by rfl) T.b_all (by decide +kernel) (pa_cons (pe_lc (own := [("_law_k", 2)]) (g := gName 2) (tt := tYes) rfl sc_law.nd (pi_range1 (by rfl) T.b_range (pa_cons (pe_callB (len_K (K := K)) (by rfl) T.b_len PySem.boot_len (pa_cons (pv 1) pa_nil)) pa_nil)) (blkOk_by (N := n_law) (sc := defScope s_law) (by decide +kernel)) (fun _ _ _ _ _ => (pg_name (i := 2) sc_law.nd rfl (Or.inl rfl))) (fun _ _ _ _ _ => pts_nil) (fun _ _ _ _ _ => (pe_dn D__law_right (hr.mono (by omega)) (pa_cons (pe_dn D__law_box (hr.mono (by omega)) (pa_cons (pv 1) (pa_cons (pv 2) pa_nil))) pa_nil)))) pa_nil)))))), ?_⟩)
  · obtain ⟨a, ns, rfl, _⟩ := h
    rfl
  obtain ⟨a, ns, rfl, hS, hl, q⟩ := h
  have st0 : StD none H (fun _ => none) H (L2.start n_law [.ref a]) [.sq K ns, .un, .un] := by
    refine ⟨rfl, fun i s o p r => ?_⟩
    match i, p, r with
    | 0, p, r =>
      cases p
      cases r
      exact ⟨a, rfl, by simp, hS, hS⟩
    | 1, p, r => cases p; trivial
    | 2, p, r => cases p; trivial
    | k + 3, p, r => cases p
  have w0 : Wk none 0 (fun _ => none) H := ⟨fun _ _ e => (by cases e), fun _ e => nomatch e⟩
  refine WS.run (Ψ := fun _ _ => False) (R := fun d _ => d = .bool true) ?_ (G0 := fun _ => none) .refl st0 w0 (fun _ _ _ _ _ z => z.elim) (fun v d n' G' H' h' t' w' x' => ?_)
  case refine_2 =>
    subst h'
    rw [dt_bool.mp x']
    exact q H'
  walk_at "wd"
  refine ⟨fun e => (by cases e), fun _ => ?_⟩
  refine ws_next (ws_seq (ws_set (we_cells rfl hl fun cs hc => ?_)))
  walk_at "wd"
  refine we_lc (tg_name 2) (WI.t (wi_rngN ?_))
  walk_at "wd"
  rw [List.length_map]
  refine ⟨by omega, by simp; omega, fun _ _ => trivial, lc_map (g := fun _ => PyData.bool true) (fun y hy n' Φ2 h2 => ?_) ?_⟩
  · obtain ⟨k, hk, rfl⟩ := List.mem_map.mp hy
    have hkl := List.mem_range.mp hk
    refine we_rb ?_
    walk_at "wd"
    exact ⟨Nat.lt_of_le_of_lt (Nat.le_of_eq (Nat.zero_add k)) hkl, by omega, h2⟩
  rw [List.nil_append, all_true]
  walk_at "wd"
  rw [show ((List.map (fun (i : Nat) => PyData.int (0 + (i : Int))) (List.range cs.length)).map fun _ => true).all id = true by simp]
end
end BW

set_option Elab.async false
set_option linter.all false
set_option maxRecDepth 100000
set_option maxHeartbeats 8000000
namespace BW
open PySem PySem.Spec PyProof.Rows L2
theorem all_mk {l : PySem.W.OpenLaw} {w : World} {K : PySem.W.Frag} {h : Heap} {mg : Str → Option Value} {fa C f1 f2 f3 f4 f5 f6 f7 f8 f9 f10 f11 f12 f13 f14 f15 f16 f17 f18 f19 f20 f21 f22 f23 f24 f25 f26 f27 f28 f29 f30 f31 : Addr} (X : K.In h) (G : h.Ns mainGlobals mg) (hfa : mg "law" = some (.ref fa))
    {od1 an1 od2 an2 od3 an3 od4 an4 od5 an5 od6 an6 od7 an7 od8 an8 od9 an9 od10 an10 od11 an11 od12 an12 od13 an13 od14 an14 od15 an15 od16 an16 od17 an17 od18 an18 od19 an19 od20 an20 od21 an21 od22 an22 od23 an23 od24 an24 od25 an25 od26 an26 od27 an27 od28 an28 od29 an29 od30 an30 od31 an31 : Option Addr} {sl1 sl2 sl3 sl4 sl5 sl6 sl7 sl8 sl9 sl10 sl11 sl12 sl13 sl14 sl15 sl16 sl17 sl18 sl19 sl20 sl21 sl22 sl23 sl24 sl25 sl26 sl27 sl28 sl29 sl30 sl31 : Array (Option Value)} {oc1 kV1 dc1 pm1 cd1 ct1 oc2 kV2 dc2 pm2 cd2 ct2 oc3 kV3 dc3 pm3 cd3 ct3 oc4 kV4 dc4 pm4 cd4 ct4 oc5 kV5 dc5 pm5 cd5 ct5 oc6 kV6 dc6 pm6 cd6 ct6 oc7 kV7 dc7 pm7 cd7 ct7 oc8 kV8 dc8 pm8 cd8 ct8 oc9 kV9 dc9 pm9 cd9 ct9 oc10 kV10 dc10 pm10 cd10 ct10 oc11 kV11 dc11 pm11 cd11 ct11 oc12 kV12 dc12 pm12 cd12 ct12 oc13 kV13 dc13 pm13 cd13 ct13 oc14 kV14 dc14 pm14 cd14 ct14 oc15 kV15 dc15 pm15 cd15 ct15 oc16 kV16 dc16 pm16 cd16 ct16 oc17 kV17 dc17 pm17 cd17 ct17 oc18 kV18 dc18 pm18 cd18 ct18 oc19 kV19 dc19 pm19 cd19 ct19 oc20 kV20 dc20 pm20 cd20 ct20 oc21 kV21 dc21 pm21 cd21 ct21 oc22 kV22 dc22 pm22 cd22 ct22 oc23 kV23 dc23 pm23 cd23 ct23 oc24 kV24 dc24 pm24 cd24 ct24 oc25 kV25 dc25 pm25 cd25 ct25 oc26 kV26 dc26 pm26 cd26 ct26 oc27 kV27 dc27 pm27 cd27 ct27 oc28 kV28 dc28 pm28 cd28 ct28 oc29 kV29 dc29 pm29 cd29 ct29 oc30 kV30 dc30 pm30 cd30 ct30 oc31 kV31 dc31 pm31 cd31 ct31 : Value}
    (a1 : PySem.W.nsIn K mainGlobals "is_number" = some (some (.ref f1)))
    (l1 : K.lookup f1 = some ⟨oc1, od1, .func (PySem.W.fnOf "is_number" "is_number" (defArgs s_is_number) (defBody s_is_number) (defScope s_is_number) .none kV1 dc1 pm1 an1 cd1 ct1), sl1⟩)
    (c1 : PySem.W.codeIn K cd1 "is_number" = true) (k1 : PySem.W.keepIn K (.ref f1) = true)
    (a2 : PySem.W.nsIn K mainGlobals "tupled" = some (some (.ref f2)))
    (l2 : K.lookup f2 = some ⟨oc2, od2, .func (PySem.W.fnOf "tupled" "tupled" (defArgs s_tupled) (defBody s_tupled) (defScope s_tupled) .none kV2 dc2 pm2 an2 cd2 ct2), sl2⟩)
    (c2 : PySem.W.codeIn K cd2 "tupled" = true) (k2 : PySem.W.keepIn K (.ref f2) = true)
    (a3 : PySem.W.nsIn K mainGlobals "is_wheel" = some (some (.ref f3)))
    (l3 : K.lookup f3 = some ⟨oc3, od3, .func (PySem.W.fnOf "is_wheel" "is_wheel" (defArgs s_is_wheel) (defBody s_is_wheel) (defScope s_is_wheel) .none kV3 dc3 pm3 an3 cd3 ct3), sl3⟩)
    (c3 : PySem.W.codeIn K cd3 "is_wheel" = true) (k3 : PySem.W.keepIn K (.ref f3) = true)
    (a4 : PySem.W.nsIn K mainGlobals "sure_wheel" = some (some (.ref f4)))
    (l4 : K.lookup f4 = some ⟨oc4, od4, .func (PySem.W.fnOf "sure_wheel" "sure_wheel" (defArgs s_sure_wheel) (defBody s_sure_wheel) (defScope s_sure_wheel) .none kV4 dc4 pm4 an4 cd4 ct4), sl4⟩)
    (c4 : PySem.W.codeIn K cd4 "sure_wheel" = true) (k4 : PySem.W.keepIn K (.ref f4) = true)
    (a5 : PySem.W.nsIn K mainGlobals "is_train" = some (some (.ref f5)))
    (l5 : K.lookup f5 = some ⟨oc5, od5, .func (PySem.W.fnOf "is_train" "is_train" (defArgs s_is_train) (defBody s_is_train) (defScope s_is_train) .none kV5 dc5 pm5 an5 cd5 ct5), sl5⟩)
    (c5 : PySem.W.codeIn K cd5 "is_train" = true) (k5 : PySem.W.keepIn K (.ref f5) = true)
    (a6 : PySem.W.nsIn K mainGlobals "sure_train" = some (some (.ref f6)))
    (l6 : K.lookup f6 = some ⟨oc6, od6, .func (PySem.W.fnOf "sure_train" "sure_train" (defArgs s_sure_train) (defBody s_sure_train) (defScope s_sure_train) .none kV6 dc6 pm6 an6 cd6 ct6), sl6⟩)
    (c6 : PySem.W.codeIn K cd6 "sure_train" = true) (k6 : PySem.W.keepIn K (.ref f6) = true)
    (a7 : PySem.W.nsIn K mainGlobals "led_in" = some (some (.ref f7)))
    (l7 : K.lookup f7 = some ⟨oc7, od7, .func (PySem.W.fnOf "led_in" "led_in" (defArgs s_led_in) (defBody s_led_in) (defScope s_led_in) .none kV7 dc7 pm7 an7 cd7 ct7), sl7⟩)
    (c7 : PySem.W.codeIn K cd7 "led_in" = true) (k7 : PySem.W.keepIn K (.ref f7) = true)
    (a8 : PySem.W.nsIn K mainGlobals "leads" = some (some (.ref f8)))
    (l8 : K.lookup f8 = some ⟨oc8, od8, .func (PySem.W.fnOf "leads" "leads" (defArgs s_leads) (defBody s_leads) (defScope s_leads) .none kV8 dc8 pm8 an8 cd8 ct8), sl8⟩)
    (c8 : PySem.W.codeIn K cd8 "leads" = true) (k8 : PySem.W.keepIn K (.ref f8) = true)
    (a9 : PySem.W.nsIn K mainGlobals "shift" = some (some (.ref f9)))
    (l9 : K.lookup f9 = some ⟨oc9, od9, .func (PySem.W.fnOf "shift" "shift" (defArgs s_shift) (defBody s_shift) (defScope s_shift) .none kV9 dc9 pm9 an9 cd9 ct9), sl9⟩)
    (c9 : PySem.W.codeIn K cd9 "shift" = true) (k9 : PySem.W.keepIn K (.ref f9) = true)
    (a10 : PySem.W.nsIn K mainGlobals "is_shift" = some (some (.ref f10)))
    (l10 : K.lookup f10 = some ⟨oc10, od10, .func (PySem.W.fnOf "is_shift" "is_shift" (defArgs s_is_shift) (defBody s_is_shift) (defScope s_is_shift) .none kV10 dc10 pm10 an10 cd10 ct10), sl10⟩)
    (c10 : PySem.W.codeIn K cd10 "is_shift" = true) (k10 : PySem.W.keepIn K (.ref f10) = true)
    (a11 : PySem.W.nsIn K mainGlobals "steps_of" = some (some (.ref f11)))
    (l11 : K.lookup f11 = some ⟨oc11, od11, .func (PySem.W.fnOf "steps_of" "steps_of" (defArgs s_steps_of) (defBody s_steps_of) (defScope s_steps_of) .none kV11 dc11 pm11 an11 cd11 ct11), sl11⟩)
    (c11 : PySem.W.codeIn K cd11 "steps_of" = true) (k11 : PySem.W.keepIn K (.ref f11) = true)
    (a12 : PySem.W.nsIn K mainGlobals "behind" = some (some (.ref f12)))
    (l12 : K.lookup f12 = some ⟨oc12, od12, .func (PySem.W.fnOf "behind" "behind" (defArgs s_behind) (defBody s_behind) (defScope s_behind) .none kV12 dc12 pm12 an12 cd12 ct12), sl12⟩)
    (c12 : PySem.W.codeIn K cd12 "behind" = true) (k12 : PySem.W.keepIn K (.ref f12) = true)
    (a13 : PySem.W.nsIn K mainGlobals "put_in" = some (some (.ref f13)))
    (l13 : K.lookup f13 = some ⟨oc13, od13, .func (PySem.W.fnOf "put_in" "put_in" (defArgs s_put_in) (defBody s_put_in) (defScope s_put_in) .none kV13 dc13 pm13 an13 cd13 ct13), sl13⟩)
    (c13 : PySem.W.codeIn K cd13 "put_in" = true) (k13 : PySem.W.keepIn K (.ref f13) = true)
    (a14 : PySem.W.nsIn K mainGlobals "put_together" = some (some (.ref f14)))
    (l14 : K.lookup f14 = some ⟨oc14, od14, .func (PySem.W.fnOf "put_together" "put_together" (defArgs s_put_together) (defBody s_put_together) (defScope s_put_together) .none kV14 dc14 pm14 an14 cd14 ct14), sl14⟩)
    (c14 : PySem.W.codeIn K cd14 "put_together" = true) (k14 : PySem.W.keepIn K (.ref f14) = true)
    (a15 : PySem.W.nsIn K mainGlobals "power" = some (some (.ref f15)))
    (l15 : K.lookup f15 = some ⟨oc15, od15, .func (PySem.W.fnOf "power" "power" (defArgs s_power) (defBody s_power) (defScope s_power) .none kV15 dc15 pm15 an15 cd15 ct15), sl15⟩)
    (c15 : PySem.W.codeIn K cd15 "power" = true) (k15 : PySem.W.keepIn K (.ref f15) = true)
    (a16 : PySem.W.nsIn K mainGlobals "_law_box" = some (some (.ref f16)))
    (l16 : K.lookup f16 = some ⟨oc16, od16, .func (PySem.W.fnOf "_law_box" "_law_box" (defArgs s__law_box) (defBody s__law_box) (defScope s__law_box) .none kV16 dc16 pm16 an16 cd16 ct16), sl16⟩)
    (c16 : PySem.W.codeIn K cd16 "_law_box" = true) (k16 : PySem.W.keepIn K (.ref f16) = true)
    (a17 : PySem.W.nsIn K mainGlobals "_law_take" = some (some (.ref f17)))
    (l17 : K.lookup f17 = some ⟨oc17, od17, .func (PySem.W.fnOf "_law_take" "_law_take" (defArgs s__law_take) (defBody s__law_take) (defScope s__law_take) .none kV17 dc17 pm17 an17 cd17 ct17), sl17⟩)
    (c17 : PySem.W.codeIn K cd17 "_law_take" = true) (k17 : PySem.W.keepIn K (.ref f17) = true)
    (a18 : PySem.W.nsIn K mainGlobals "_law_cells" = some (some (.ref f18)))
    (l18 : K.lookup f18 = some ⟨oc18, od18, .func (PySem.W.fnOf "_law_cells" "_law_cells" (defArgs s__law_cells) (defBody s__law_cells) (defScope s__law_cells) .none kV18 dc18 pm18 an18 cd18 ct18), sl18⟩)
    (c18 : PySem.W.codeIn K cd18 "_law_cells" = true) (k18 : PySem.W.keepIn K (.ref f18) = true)
    (a19 : PySem.W.nsIn K mainGlobals "_law_of" = some (some (.ref f19)))
    (l19 : K.lookup f19 = some ⟨oc19, od19, .func (PySem.W.fnOf "_law_of" "_law_of" (defArgs s__law_of) (defBody s__law_of) (defScope s__law_of) .none kV19 dc19 pm19 an19 cd19 ct19), sl19⟩)
    (c19 : PySem.W.codeIn K cd19 "_law_of" = true) (k19 : PySem.W.keepIn K (.ref f19) = true)
    (a20 : PySem.W.nsIn K mainGlobals "_law_lists" = some (some (.ref f20)))
    (l20 : K.lookup f20 = some ⟨oc20, od20, .func (PySem.W.fnOf "_law_lists" "_law_lists" (defArgs s__law_lists) (defBody s__law_lists) (defScope s__law_lists) .none kV20 dc20 pm20 an20 cd20 ct20), sl20⟩)
    (c20 : PySem.W.codeIn K cd20 "_law_lists" = true) (k20 : PySem.W.keepIn K (.ref f20) = true)
    (a21 : PySem.W.nsIn K mainGlobals "_law_same" = some (some (.ref f21)))
    (l21 : K.lookup f21 = some ⟨oc21, od21, .func (PySem.W.fnOf "_law_same" "_law_same" (defArgs s__law_same) (defBody s__law_same) (defScope s__law_same) .none kV21 dc21 pm21 an21 cd21 ct21), sl21⟩)
    (c21 : PySem.W.codeIn K cd21 "_law_same" = true) (k21 : PySem.W.keepIn K (.ref f21) = true)
    (a22 : PySem.W.nsIn K mainGlobals "_law_led" = some (some (.ref f22)))
    (l22 : K.lookup f22 = some ⟨oc22, od22, .func (PySem.W.fnOf "_law_led" "_law_led" (defArgs s__law_led) (defBody s__law_led) (defScope s__law_led) .none kV22 dc22 pm22 an22 cd22 ct22), sl22⟩)
    (c22 : PySem.W.codeIn K cd22 "_law_led" = true) (k22 : PySem.W.keepIn K (.ref f22) = true)
    (a23 : PySem.W.nsIn K mainGlobals "_law_shift" = some (some (.ref f23)))
    (l23 : K.lookup f23 = some ⟨oc23, od23, .func (PySem.W.fnOf "_law_shift" "_law_shift" (defArgs s__law_shift) (defBody s__law_shift) (defScope s__law_shift) .none kV23 dc23 pm23 an23 cd23 ct23), sl23⟩)
    (c23 : PySem.W.codeIn K cd23 "_law_shift" = true) (k23 : PySem.W.keepIn K (.ref f23) = true)
    (a24 : PySem.W.nsIn K mainGlobals "_law_put" = some (some (.ref f24)))
    (l24 : K.lookup f24 = some ⟨oc24, od24, .func (PySem.W.fnOf "_law_put" "_law_put" (defArgs s__law_put) (defBody s__law_put) (defScope s__law_put) .none kV24 dc24 pm24 an24 cd24 ct24), sl24⟩)
    (c24 : PySem.W.codeIn K cd24 "_law_put" = true) (k24 : PySem.W.keepIn K (.ref f24) = true)
    (a25 : PySem.W.nsIn K mainGlobals "_law_disk" = some (some (.ref f25)))
    (l25 : K.lookup f25 = some ⟨oc25, od25, .func (PySem.W.fnOf "_law_disk" "_law_disk" (defArgs s__law_disk) (defBody s__law_disk) (defScope s__law_disk) .none kV25 dc25 pm25 an25 cd25 ct25), sl25⟩)
    (c25 : PySem.W.codeIn K cd25 "_law_disk" = true) (k25 : PySem.W.keepIn K (.ref f25) = true)
    (a26 : PySem.W.nsIn K mainGlobals "_law_disks" = some (some (.ref f26)))
    (l26 : K.lookup f26 = some ⟨oc26, od26, .func (PySem.W.fnOf "_law_disks" "_law_disks" (defArgs s__law_disks) (defBody s__law_disks) (defScope s__law_disks) .none kV26 dc26 pm26 an26 cd26 ct26), sl26⟩)
    (c26 : PySem.W.codeIn K cd26 "_law_disks" = true) (k26 : PySem.W.keepIn K (.ref f26) = true)
    (a27 : PySem.W.nsIn K mainGlobals "_law_heard" = some (some (.ref f27)))
    (l27 : K.lookup f27 = some ⟨oc27, od27, .func (PySem.W.fnOf "_law_heard" "_law_heard" (defArgs s__law_heard) (defBody s__law_heard) (defScope s__law_heard) .none kV27 dc27 pm27 an27 cd27 ct27), sl27⟩)
    (c27 : PySem.W.codeIn K cd27 "_law_heard" = true) (k27 : PySem.W.keepIn K (.ref f27) = true)
    (a28 : PySem.W.nsIn K mainGlobals "_law_hand_right" = some (some (.ref f28)))
    (l28 : K.lookup f28 = some ⟨oc28, od28, .func (PySem.W.fnOf "_law_hand_right" "_law_hand_right" (defArgs s__law_hand_right) (defBody s__law_hand_right) (defScope s__law_hand_right) .none kV28 dc28 pm28 an28 cd28 ct28), sl28⟩)
    (c28 : PySem.W.codeIn K cd28 "_law_hand_right" = true) (k28 : PySem.W.keepIn K (.ref f28) = true)
    (a29 : PySem.W.nsIn K mainGlobals "_law_far" = some (some (.ref f29)))
    (l29 : K.lookup f29 = some ⟨oc29, od29, .func (PySem.W.fnOf "_law_far" "_law_far" (defArgs s__law_far) (defBody s__law_far) (defScope s__law_far) .none kV29 dc29 pm29 an29 cd29 ct29), sl29⟩)
    (c29 : PySem.W.codeIn K cd29 "_law_far" = true) (k29 : PySem.W.keepIn K (.ref f29) = true)
    (a30 : PySem.W.nsIn K mainGlobals "_law_right" = some (some (.ref f30)))
    (l30 : K.lookup f30 = some ⟨oc30, od30, .func (PySem.W.fnOf "_law_right" "_law_right" (defArgs s__law_right) (defBody s__law_right) (defScope s__law_right) .none kV30 dc30 pm30 an30 cd30 ct30), sl30⟩)
    (c30 : PySem.W.codeIn K cd30 "_law_right" = true) (k30 : PySem.W.keepIn K (.ref f30) = true)
    (a31 : PySem.W.nsIn K mainGlobals "law" = some (some (.ref f31)))
    (l31 : K.lookup f31 = some ⟨oc31, od31, .func (PySem.W.fnOf "law" "law" (defArgs s_law) (defBody s_law) (defScope s_law) .none kV31 dc31 pm31 an31 cd31 ct31), sl31⟩)
    (c31 : PySem.W.codeIn K cd31 "law" = true) (k31 : PySem.W.keepIn K (.ref f31) = true)
    (z_len : PySem.W.nsIn K mainGlobals "len" = some none)
    (z_zip : PySem.W.nsIn K mainGlobals "zip" = some none)
    (z_all : PySem.W.nsIn K mainGlobals "all" = some none)
    (z_isinstance : PySem.W.nsIn K mainGlobals "isinstance" = some none)
    (z_int : PySem.W.nsIn K mainGlobals "int" = some none)
    (z_bool : PySem.W.nsIn K mainGlobals "bool" = some none)
    (z_str : PySem.W.nsIn K mainGlobals "str" = some none)
    (z_list : PySem.W.nsIn K mainGlobals "list" = some none)
    (z_tuple : PySem.W.nsIn K mainGlobals "tuple" = some none)
    (z_divmod : PySem.W.nsIn K mainGlobals "divmod" = some none)
    (z_range : PySem.W.nsIn K mainGlobals "range" = some none)
    (z_abs : PySem.W.nsIn K mainGlobals "abs" = some none)
    (z_min : PySem.W.nsIn K mainGlobals "min" = some none)
    (z_max : PySem.W.nsIn K mainGlobals "max" = some none)
    (z_sorted : PySem.W.nsIn K mainGlobals "sorted" = some none)
    (z_enumerate : PySem.W.nsIn K mainGlobals "enumerate" = some none)
    (z_ValueError : PySem.W.nsIn K mainGlobals "ValueError" = some none)
    (aC : PySem.W.nsIn K mainGlobals "CanNot" = some (some (.ref C))) (xC : PySem.W.excIn K C [.type "ValueError", .type "Exception", .type "BaseException", .type "object"] "ValueError.__new__" = true)
    (kC : PySem.W.keepIn K (.ref C) = true) (bC : PySem.W.subIn K (.ref C) (.type "BaseException") = some true) (tC : PySem.W.typeIn K (.ref C) = some (.type "type")) (iC : PySem.W.isClsIn K C = true) (sC : PySem.W.subIn K (.ref C) (.ref C) = some true)
    (e1 : PySem.W.findIn K (.ref C) "__getattribute__" = some (some (.builtin "BaseException.__getattribute__"))) (e2 : PySem.W.findIn K (.ref C) "__getattr__" = some none) (e3 : PySem.W.hasDictIn K C = true)
    (e4 : PySem.W.findIn K (.ref C) "__class__" = some (some (.builtin "object.__class__"))) (e5 : PySem.W.specialIn K (.builtin "object.__class__") "__get__" = some (some (.builtin "getset_descriptor.__get__")))
    (e6 : PySem.W.takesIn K (.builtin "object.__class__") = some true) (e7 : PySem.W.mroIn K C (.type "object") = some true) (kt : PySem.W.kitOne K (.ref C) (.type "ValueError") = some true) :
    ∃ fd : FuncData, (∀ (s : Shared) (v : Value), BindsTo s fd ⟨[v], []⟩ [("_law_script", v)]) ∧ ∀ base : Heap, K.In base → base.Ns mainGlobals mg → FnOk l.prog w K mg base CX0 8 fa fd ["_law_script"] (spLaw K) := by
  have e := hfa.symm.trans (PySem.W.mg_of X G a31)
  cases e
  have T : Txt K mg := ⟨PySem.W.mg_none_of X G z_len, PySem.W.mg_none_of X G z_zip, PySem.W.mg_none_of X G z_all, PySem.W.mg_none_of X G z_isinstance, PySem.W.mg_none_of X G z_int, PySem.W.mg_none_of X G z_bool, PySem.W.mg_none_of X G z_str, PySem.W.mg_none_of X G z_list, PySem.W.mg_none_of X G z_tuple, PySem.W.mg_none_of X G z_divmod, PySem.W.mg_none_of X G z_range, PySem.W.mg_none_of X G z_abs, PySem.W.mg_none_of X G z_min, PySem.W.mg_none_of X G z_max, PySem.W.mg_none_of X G z_sorted, PySem.W.mg_none_of X G z_enumerate, PySem.W.mg_none_of X G z_ValueError,
    ⟨_, _, fun_mk (st := s_is_number) l1 c1 k1, PySem.W.mg_of X G a1⟩,
    ⟨_, _, fun_mk (st := s_tupled) l2 c2 k2, PySem.W.mg_of X G a2⟩,
    ⟨_, _, fun_mk (st := s_is_wheel) l3 c3 k3, PySem.W.mg_of X G a3⟩,
    ⟨_, _, fun_mk (st := s_sure_wheel) l4 c4 k4, PySem.W.mg_of X G a4⟩,
    ⟨_, _, fun_mk (st := s_is_train) l5 c5 k5, PySem.W.mg_of X G a5⟩,
    ⟨_, _, fun_mk (st := s_sure_train) l6 c6 k6, PySem.W.mg_of X G a6⟩,
    ⟨_, _, fun_mk (st := s_led_in) l7 c7 k7, PySem.W.mg_of X G a7⟩,
    ⟨_, _, fun_mk (st := s_leads) l8 c8 k8, PySem.W.mg_of X G a8⟩,
    ⟨_, _, fun_mk (st := s_shift) l9 c9 k9, PySem.W.mg_of X G a9⟩,
    ⟨_, _, fun_mk (st := s_is_shift) l10 c10 k10, PySem.W.mg_of X G a10⟩,
    ⟨_, _, fun_mk (st := s_steps_of) l11 c11 k11, PySem.W.mg_of X G a11⟩,
    ⟨_, _, fun_mk (st := s_behind) l12 c12 k12, PySem.W.mg_of X G a12⟩,
    ⟨_, _, fun_mk (st := s_put_in) l13 c13 k13, PySem.W.mg_of X G a13⟩,
    ⟨_, _, fun_mk (st := s_put_together) l14 c14 k14, PySem.W.mg_of X G a14⟩,
    ⟨_, _, fun_mk (st := s_power) l15 c15 k15, PySem.W.mg_of X G a15⟩,
    ⟨_, _, fun_mk (st := s__law_box) l16 c16 k16, PySem.W.mg_of X G a16⟩,
    ⟨_, _, fun_mk (st := s__law_take) l17 c17 k17, PySem.W.mg_of X G a17⟩,
    ⟨_, _, fun_mk (st := s__law_cells) l18 c18 k18, PySem.W.mg_of X G a18⟩,
    ⟨_, _, fun_mk (st := s__law_of) l19 c19 k19, PySem.W.mg_of X G a19⟩,
    ⟨_, _, fun_mk (st := s__law_lists) l20 c20 k20, PySem.W.mg_of X G a20⟩,
    ⟨_, _, fun_mk (st := s__law_same) l21 c21 k21, PySem.W.mg_of X G a21⟩,
    ⟨_, _, fun_mk (st := s__law_led) l22 c22 k22, PySem.W.mg_of X G a22⟩,
    ⟨_, _, fun_mk (st := s__law_shift) l23 c23 k23, PySem.W.mg_of X G a23⟩,
    ⟨_, _, fun_mk (st := s__law_put) l24 c24 k24, PySem.W.mg_of X G a24⟩,
    ⟨_, _, fun_mk (st := s__law_disk) l25 c25 k25, PySem.W.mg_of X G a25⟩,
    ⟨_, _, fun_mk (st := s__law_disks) l26 c26 k26, PySem.W.mg_of X G a26⟩,
    ⟨_, _, fun_mk (st := s__law_heard) l27 c27 k27, PySem.W.mg_of X G a27⟩,
    ⟨_, _, fun_mk (st := s__law_hand_right) l28 c28 k28, PySem.W.mg_of X G a28⟩,
    ⟨_, _, fun_mk (st := s__law_far) l29 c29 k29, PySem.W.mg_of X G a29⟩,
    ⟨_, _, fun_mk (st := s__law_right) l30 c30 k30, PySem.W.mg_of X G a30⟩,
    ⟨_, _, fun_mk (st := s_law) l31 c31 k31, PySem.W.mg_of X G a31⟩⟩
  have TC : TxtC K mg C := ⟨PySem.W.mg_of X G aC, xC, kC, bC, tC, iC, sC, ⟨e1, e2, bC, e3, e4, e5, e6, e7⟩, kt⟩
  exact ⟨PySem.W.fnOf "law" "law" (defArgs s_law) (defBody s_law) (defScope s_law) .none kV31 dc31 pm31 an31 cd31 ct31, fun s v => .of_eq rfl, fun base _ _ => ok_law (fun_mk (st := s_law) l31 c31 k31) T TC⟩
end BW

set_option Elab.async false
set_option linter.all false
set_option maxRecDepth 100000
open PySem PySem.W PyProof.Rows
set_option maxHeartbeats 0 in
theorem PySem.Challenge.cw_bothwheels_k05_whole_led_and_put_togethe_holds : PySem.Challenge.rw_bothwheels_k05_whole_led_and_put_togethe.Holds := by
  w_on; o_law; k_head; (case hw => w_witness2)
  k_fill
  refine L2.walk_of (l := PySem.Challenge.rw_bothwheels_k05_whole_led_and_put_togethe) (n := 63) (k := 8) (x := "_law_script") (CX := fun _ => L2.CX0) (sp := fun w => BW.spLaw _) rfl (by decide) rfl ⟨rfl, by decide, by decide⟩ (fun w h Y => PySem.W.kIn_of Y) ?F (fun _ _ a ns hl _ hS => ⟨a, ns, rfl, hS, hl, fun _ => rfl⟩) (fun _ _ _ _ _ h => h)
  case F =>
    intro w mg fa h KX G hmg
    refine' BW.all_mk KX G hmg ?a1 ?l1 ?c1 ?k1 ?a2 ?l2 ?c2 ?k2 ?a3 ?l3 ?c3 ?k3 ?a4 ?l4 ?c4 ?k4 ?a5 ?l5 ?c5 ?k5 ?a6 ?l6 ?c6 ?k6 ?a7 ?l7 ?c7 ?k7 ?a8 ?l8 ?c8 ?k8 ?a9 ?l9 ?c9 ?k9 ?a10 ?l10 ?c10 ?k10 ?a11 ?l11 ?c11 ?k11 ?a12 ?l12 ?c12 ?k12 ?a13 ?l13 ?c13 ?k13 ?a14 ?l14 ?c14 ?k14 ?a15 ?l15 ?c15 ?k15 ?a16 ?l16 ?c16 ?k16 ?a17 ?l17 ?c17 ?k17 ?a18 ?l18 ?c18 ?k18 ?a19 ?l19 ?c19 ?k19 ?a20 ?l20 ?c20 ?k20 ?a21 ?l21 ?c21 ?k21 ?a22 ?l22 ?c22 ?k22 ?a23 ?l23 ?c23 ?k23 ?a24 ?l24 ?c24 ?k24 ?a25 ?l25 ?c25 ?k25 ?a26 ?l26 ?c26 ?k26 ?a27 ?l27 ?c27 ?k27 ?a28 ?l28 ?c28 ?k28 ?a29 ?l29 ?c29 ?k29 ?a30 ?l30 ?c30 ?k30 ?a31 ?l31 ?c31 ?k31 ?z_len ?z_zip ?z_all ?z_isinstance ?z_int ?z_bool ?z_str ?z_list ?z_tuple ?z_divmod ?z_range ?z_abs ?z_min ?z_max ?z_sorted ?z_enumerate ?z_ValueError ?aC ?xC ?kC ?bC ?tC ?iC ?sC ?e1 ?e2 ?e3 ?e4 ?e5 ?e6 ?e7 ?kt
    (case a1 => first | k_is | rfl)
    (case l1 => first | k_is | rfl)
    (case c1 => first | k_is | rfl)
    (case k1 => first | k_is | rfl)
    (case a2 => first | k_is | rfl)
    (case l2 => first | k_is | rfl)
    (case c2 => first | k_is | rfl)
    (case k2 => first | k_is | rfl)
    (case a3 => first | k_is | rfl)
    (case l3 => first | k_is | rfl)
    (case c3 => first | k_is | rfl)
    (case k3 => first | k_is | rfl)
    (case a4 => first | k_is | rfl)
    (case l4 => first | k_is | rfl)
    (case c4 => first | k_is | rfl)
    (case k4 => first | k_is | rfl)
    (case a5 => first | k_is | rfl)
    (case l5 => first | k_is | rfl)
    (case c5 => first | k_is | rfl)
    (case k5 => first | k_is | rfl)
    (case a6 => first | k_is | rfl)
    (case l6 => first | k_is | rfl)
    (case c6 => first | k_is | rfl)
    (case k6 => first | k_is | rfl)
    (case a7 => first | k_is | rfl)
    (case l7 => first | k_is | rfl)
    (case c7 => first | k_is | rfl)
    (case k7 => first | k_is | rfl)
    (case a8 => first | k_is | rfl)
    (case l8 => first | k_is | rfl)
    (case c8 => first | k_is | rfl)
    (case k8 => first | k_is | rfl)
    (case a9 => first | k_is | rfl)
    (case l9 => first | k_is | rfl)
    (case c9 => first | k_is | rfl)
    (case k9 => first | k_is | rfl)
    (case a10 => first | k_is | rfl)
    (case l10 => first | k_is | rfl)
    (case c10 => first | k_is | rfl)
    (case k10 => first | k_is | rfl)
    (case a11 => first | k_is | rfl)
    (case l11 => first | k_is | rfl)
    (case c11 => first | k_is | rfl)
    (case k11 => first | k_is | rfl)
    (case a12 => first | k_is | rfl)
    (case l12 => first | k_is | rfl)
    (case c12 => first | k_is | rfl)
    (case k12 => first | k_is | rfl)
    (case a13 => first | k_is | rfl)
    (case l13 => first | k_is | rfl)
    (case c13 => first | k_is | rfl)
    (case k13 => first | k_is | rfl)
    (case a14 => first | k_is | rfl)
    (case l14 => first | k_is | rfl)
    (case c14 => first | k_is | rfl)
    (case k14 => first | k_is | rfl)
    (case a15 => first | k_is | rfl)
    (case l15 => first | k_is | rfl)
    (case c15 => first | k_is | rfl)
    (case k15 => first | k_is | rfl)
    (case a16 => first | k_is | rfl)
    (case l16 => first | k_is | rfl)
    (case c16 => first | k_is | rfl)
    (case k16 => first | k_is | rfl)
    (case a17 => first | k_is | rfl)
    (case l17 => first | k_is | rfl)
    (case c17 => first | k_is | rfl)
    (case k17 => first | k_is | rfl)
    (case a18 => first | k_is | rfl)
    (case l18 => first | k_is | rfl)
    (case c18 => first | k_is | rfl)
    (case k18 => first | k_is | rfl)
    (case a19 => first | k_is | rfl)
    (case l19 => first | k_is | rfl)
    (case c19 => first | k_is | rfl)
    (case k19 => first | k_is | rfl)
    (case a20 => first | k_is | rfl)
    (case l20 => first | k_is | rfl)
    (case c20 => first | k_is | rfl)
    (case k20 => first | k_is | rfl)
    (case a21 => first | k_is | rfl)
    (case l21 => first | k_is | rfl)
    (case c21 => first | k_is | rfl)
    (case k21 => first | k_is | rfl)
    (case a22 => first | k_is | rfl)
    (case l22 => first | k_is | rfl)
    (case c22 => first | k_is | rfl)
    (case k22 => first | k_is | rfl)
    (case a23 => first | k_is | rfl)
    (case l23 => first | k_is | rfl)
    (case c23 => first | k_is | rfl)
    (case k23 => first | k_is | rfl)
    (case a24 => first | k_is | rfl)
    (case l24 => first | k_is | rfl)
    (case c24 => first | k_is | rfl)
    (case k24 => first | k_is | rfl)
    (case a25 => first | k_is | rfl)
    (case l25 => first | k_is | rfl)
    (case c25 => first | k_is | rfl)
    (case k25 => first | k_is | rfl)
    (case a26 => first | k_is | rfl)
    (case l26 => first | k_is | rfl)
    (case c26 => first | k_is | rfl)
    (case k26 => first | k_is | rfl)
    (case a27 => first | k_is | rfl)
    (case l27 => first | k_is | rfl)
    (case c27 => first | k_is | rfl)
    (case k27 => first | k_is | rfl)
    (case a28 => first | k_is | rfl)
    (case l28 => first | k_is | rfl)
    (case c28 => first | k_is | rfl)
    (case k28 => first | k_is | rfl)
    (case a29 => first | k_is | rfl)
    (case l29 => first | k_is | rfl)
    (case c29 => first | k_is | rfl)
    (case k29 => first | k_is | rfl)
    (case a30 => first | k_is | rfl)
    (case l30 => first | k_is | rfl)
    (case c30 => first | k_is | rfl)
    (case k30 => first | k_is | rfl)
    (case a31 => first | k_is | rfl)
    (case l31 => first | k_is | rfl)
    (case c31 => first | k_is | rfl)
    (case k31 => first | k_is | rfl)
    (case z_len => first | k_is | rfl)
    (case z_zip => first | k_is | rfl)
    (case z_all => first | k_is | rfl)
    (case z_isinstance => first | k_is | rfl)
    (case z_int => first | k_is | rfl)
    (case z_bool => first | k_is | rfl)
    (case z_str => first | k_is | rfl)
    (case z_list => first | k_is | rfl)
    (case z_tuple => first | k_is | rfl)
    (case z_divmod => first | k_is | rfl)
    (case z_range => first | k_is | rfl)
    (case z_abs => first | k_is | rfl)
    (case z_min => first | k_is | rfl)
    (case z_max => first | k_is | rfl)
    (case z_sorted => first | k_is | rfl)
    (case z_enumerate => first | k_is | rfl)
    (case z_ValueError => first | k_is | rfl)
    (case aC => first | k_is | rfl)
    (case xC => k_exc)
    (case kC => first | k_is | rfl)
    (case bC => first | k_is | rfl)
    (case tC => first | k_is | rfl)
    (case iC => first | k_is | rfl)
    (case sC => first | k_is | rfl)
    (case e1 => first | k_is | rfl)
    (case e2 => first | k_is | rfl)
    (case e3 => first | k_is | rfl)
    (case e4 => first | k_is | rfl)
    (case e5 => first | k_is | rfl)
    (case e6 => first | k_is | rfl)
    (case e7 => first | k_is | rfl)
    (case kt => first | k_is | rfl)
