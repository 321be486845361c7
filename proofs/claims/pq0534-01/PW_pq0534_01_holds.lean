import PyProof.Rows.All
import Wide.All
import OpenK.AllK
import Wide.FinOn
import PySem.Challenge.RW_pq0534_01
set_option Elab.async false
set_option maxRecDepth 100000
set_option maxHeartbeats 8000000
set_option rowWalk.seconds 0
section
namespace Mine
theorem fNeG {a b : Nat} (h : a ≠ b) : a ≠ b := h
theorem fN {a b : Nat} (h : a ≤ b) : a ≤ b := h
theorem fNL {a b : Nat} (h : a < b) : a < b := h
theorem fI {a b : Int} (h : a ≤ b) : a ≤ b := h
theorem fIL {a b : Int} (h : a < b) : a < b := h
theorem fNe {a b : Nat} (h : a < b) : a ≠ b := Nat.ne_of_lt h
theorem fEn {a b : Nat} (h : b < a) : a ≠ b := Nat.ne_of_gt h
theorem fNs {a b : Nat} (h : b ≠ a) : a ≠ b := fun e => h e.symm
theorem fSu1 {a : Nat} : a ≠ a + 1 := fNe (Nat.lt_add_of_pos_right (n := a) (k := 1) (by decide))
theorem fUs1 {a : Nat} : a + 1 ≠ a := fEn (Nat.lt_add_of_pos_right (n := a) (k := 1) (by decide))
theorem fSu2 {a : Nat} : a ≠ a + 1 + 1 := fNe (Nat.lt_add_of_pos_right (n := a) (k := 2) (by decide))
theorem fUs2 {a : Nat} : a + 1 + 1 ≠ a := fEn (Nat.lt_add_of_pos_right (n := a) (k := 2) (by decide))
theorem fSu3 {a : Nat} : a ≠ a + 1 + 1 + 1 := fNe (Nat.lt_add_of_pos_right (n := a) (k := 3) (by decide))
theorem fUs3 {a : Nat} : a + 1 + 1 + 1 ≠ a := fEn (Nat.lt_add_of_pos_right (n := a) (k := 3) (by decide))
theorem fUp1 {a b : Nat} (h : a < b) : a ≠ b + 1 := fNe (Nat.lt_of_lt_of_le h (Nat.le_add_right b 1))
theorem fPu1 {a b : Nat} (h : a < b) : b + 1 ≠ a := fEn (Nat.lt_of_lt_of_le h (Nat.le_add_right b 1))
theorem fDn1 {a b : Nat} (h : a + 1 < b) : a ≠ b := fNe (Nat.lt_of_le_of_lt (Nat.le_add_right a 1) h)
theorem fNd1 {a b : Nat} (h : a + 1 < b) : b ≠ a := fEn (Nat.lt_of_le_of_lt (Nat.le_add_right a 1) h)
theorem fUp2 {a b : Nat} (h : a < b) : a ≠ b + 1 + 1 := fNe (Nat.lt_of_lt_of_le h (Nat.le_add_right b 2))
theorem fPu2 {a b : Nat} (h : a < b) : b + 1 + 1 ≠ a := fEn (Nat.lt_of_lt_of_le h (Nat.le_add_right b 2))
theorem fDn2 {a b : Nat} (h : a + 1 + 1 < b) : a ≠ b := fNe (Nat.lt_of_le_of_lt (Nat.le_add_right a 2) h)
theorem fNd2 {a b : Nat} (h : a + 1 + 1 < b) : b ≠ a := fEn (Nat.lt_of_le_of_lt (Nat.le_add_right a 2) h)
theorem fUp3 {a b : Nat} (h : a < b) : a ≠ b + 1 + 1 + 1 := fNe (Nat.lt_of_lt_of_le h (Nat.le_add_right b 3))
theorem fPu3 {a b : Nat} (h : a < b) : b + 1 + 1 + 1 ≠ a := fEn (Nat.lt_of_lt_of_le h (Nat.le_add_right b 3))
theorem fDn3 {a b : Nat} (h : a + 1 + 1 + 1 < b) : a ≠ b := fNe (Nat.lt_of_le_of_lt (Nat.le_add_right a 3) h)
theorem fNd3 {a b : Nat} (h : a + 1 + 1 + 1 < b) : b ≠ a := fEn (Nat.lt_of_le_of_lt (Nat.le_add_right a 3) h)
theorem fUp4 {a b : Nat} (h : a < b) : a ≠ b + 1 + 1 + 1 + 1 := fNe (Nat.lt_of_lt_of_le h (Nat.le_add_right b 4))
theorem fPu4 {a b : Nat} (h : a < b) : b + 1 + 1 + 1 + 1 ≠ a := fEn (Nat.lt_of_lt_of_le h (Nat.le_add_right b 4))
theorem fFa {a b c : Nat} (h : a < c) (k : c + 1 + 1 + 1 + 1 < b) : a ≠ b := fNe (Nat.lt_trans h (Nat.lt_of_le_of_lt (Nat.le_add_right c 4) k))
theorem fAf {a b c : Nat} (h : a < c) (k : c + 1 + 1 + 1 + 1 < b) : b ≠ a := fEn (Nat.lt_trans h (Nat.lt_of_le_of_lt (Nat.le_add_right c 4) k))
theorem fTr {a b c : Nat} (h : a < c) (k : c < b) : a ≠ b := fNe (Nat.lt_trans h k)
theorem fRt {a b c : Nat} (h : a < c) (k : c < b) : b ≠ a := fEn (Nat.lt_trans h k)
theorem fA0 { G R : Prop} (h : G ∧ R) : G := h.1
theorem fA1 {P0 G R : Prop} (h : P0 ∧ G ∧ R) : G := h.2.1
theorem fB1 {P0 G : Prop} (h : P0 ∧ G) : G := h.2
theorem fA2 {P0 P1 G R : Prop} (h : P0 ∧ P1 ∧ G ∧ R) : G := h.2.2.1
theorem fB2 {P0 P1 G : Prop} (h : P0 ∧ P1 ∧ G) : G := h.2.2
theorem fA3 {P0 P1 P2 G R : Prop} (h : P0 ∧ P1 ∧ P2 ∧ G ∧ R) : G := h.2.2.2.1
theorem fB3 {P0 P1 P2 G : Prop} (h : P0 ∧ P1 ∧ P2 ∧ G) : G := h.2.2.2
theorem fA4 {P0 P1 P2 P3 G R : Prop} (h : P0 ∧ P1 ∧ P2 ∧ P3 ∧ G ∧ R) : G := h.2.2.2.2.1
theorem fB4 {P0 P1 P2 P3 G : Prop} (h : P0 ∧ P1 ∧ P2 ∧ P3 ∧ G) : G := h.2.2.2.2
theorem fA5 {P0 P1 P2 P3 P4 G R : Prop} (h : P0 ∧ P1 ∧ P2 ∧ P3 ∧ P4 ∧ G ∧ R) : G := h.2.2.2.2.2.1
theorem fB5 {P0 P1 P2 P3 P4 G : Prop} (h : P0 ∧ P1 ∧ P2 ∧ P3 ∧ P4 ∧ G) : G := h.2.2.2.2.2
theorem fA6 {P0 P1 P2 P3 P4 P5 G R : Prop} (h : P0 ∧ P1 ∧ P2 ∧ P3 ∧ P4 ∧ P5 ∧ G ∧ R) : G := h.2.2.2.2.2.2.1
theorem fB6 {P0 P1 P2 P3 P4 P5 G : Prop} (h : P0 ∧ P1 ∧ P2 ∧ P3 ∧ P4 ∧ P5 ∧ G) : G := h.2.2.2.2.2.2
theorem fA7 {P0 P1 P2 P3 P4 P5 P6 G R : Prop} (h : P0 ∧ P1 ∧ P2 ∧ P3 ∧ P4 ∧ P5 ∧ P6 ∧ G ∧ R) : G := h.2.2.2.2.2.2.2.1
theorem fB7 {P0 P1 P2 P3 P4 P5 P6 G : Prop} (h : P0 ∧ P1 ∧ P2 ∧ P3 ∧ P4 ∧ P5 ∧ P6 ∧ G) : G := h.2.2.2.2.2.2.2
theorem fn1 {x c d : Nat} (h : x ≤ c) (k : c ≤ d) : x ≤ d := Nat.le_trans h k
theorem fn2 {x c d : Nat} (h : x < c) (k : c ≤ d) : x ≤ d := Nat.le_trans (Nat.le_of_lt h) k
theorem fn3 {x c d : Nat} (h : c ≤ x) (k : d ≤ c) : d ≤ x := Nat.le_trans k h
theorem fn3s {x y c d : Nat} (e : y = x) (h : c ≤ x) (k : d ≤ c) : d ≤ y := e ▸ Nat.le_trans k h
theorem fn3t {x y c d : Nat} (e : x = y) (h : c ≤ x) (k : d ≤ c) : d ≤ y := e ▸ Nat.le_trans k h
theorem fn4 {x : Nat} {w : Int} {c : Int} {d : Nat} (e : x = w.toNat) (h : c ≤ w) (k : (d : Int) ≤ c) : d ≤ x := e ▸ Int.ofNat_le.mp (Int.le_trans (Int.le_trans k h) (Int.self_le_toNat w))
theorem fn5 {w : Int} {c : Int} {d : Nat} (h : c ≤ w) (k : (d : Int) ≤ c) : d ≤ w.toNat := Int.ofNat_le.mp (Int.le_trans (Int.le_trans k h) (Int.self_le_toNat w))
theorem fn6 {w : Int} {c : Int} {d : Nat} (h : w ≤ c) (k : c ≤ (d : Int)) : w.toNat ≤ d := Int.toNat_le.mpr (Int.le_trans h k)
theorem fn7 {x y c d : Nat} (e : y = x) (h : x ≤ c) (k : c ≤ d) : y ≤ d := e ▸ Nat.le_trans h k
theorem fn8 {x y c d : Nat} (e : y = x) (h : y ≤ c) (k : c ≤ d) : x ≤ d := e ▸ Nat.le_trans h k
theorem fn9 {x c d : Nat} (h : x ≤ c) (k : (c + 1) / 2 ≤ d) : (x + 1) / 2 ≤ d := Nat.le_trans (Nat.div_le_div_right (Nat.add_le_add_right h 1)) k
theorem fnA {x y z : Nat} (h : x ≤ y) (k : y ≤ z) : x ≤ z := Nat.le_trans h k
theorem fnB {x y a b c : Nat} (h : x ≤ a) (g : y ≤ b) (k : a + b ≤ c) : x + y ≤ c := Nat.le_trans (Nat.add_le_add h g) k
theorem fnC {x y z c d : Nat} (e : z = y) (f : y = x) (h : x ≤ c) (k : c ≤ d) : z ≤ d := e ▸ f ▸ Nat.le_trans h k
theorem fl1 {x c d : Nat} (h : x ≤ c) (k : c < d) : x < d := Nat.lt_of_le_of_lt h k
theorem fl2 {x c d : Nat} (h : x < c) (k : c ≤ d) : x < d := Nat.lt_of_lt_of_le h k
theorem fl3 {x c d : Nat} (h : x < c) (k : c + 1 ≤ d) : x + 1 < d := Nat.lt_of_lt_of_le (Nat.add_lt_add_right h 1) k
theorem fl4 {x c d e : Nat} (h : x < c) (k : c + 1 + e ≤ d) : x + 1 + e < d := Nat.lt_of_lt_of_le (Nat.add_lt_add_right (Nat.add_lt_add_right h 1) e) k
theorem fl9 {x c d e f : Nat} (h : x < c) (k : c + e + f ≤ d) : x + e + f < d := Nat.lt_of_lt_of_le (Nat.add_lt_add_right (Nat.add_lt_add_right h e) f) k
theorem fl5 {x c d : Nat} (h : c ≤ x) (k : d < c) : d < x := Nat.lt_of_lt_of_le k h
theorem fl6 {x y c d : Nat} (e : y = x) (h : x ≤ c) (k : c < d) : y < d := e ▸ Nat.lt_of_le_of_lt h k
theorem fl7 {x y c d : Nat} (e : y = x) (h : y ≤ c) (k : c < d) : x < d := e ▸ Nat.lt_of_le_of_lt h k
theorem fl8 {x y a b c : Nat} (h : x ≤ a) (g : y ≤ b) (k : a + b < c) : x + y < c := Nat.lt_of_le_of_lt (Nat.add_le_add h g) k
theorem fi0 {n : Nat} : (0 : Int) ≤ (n : Int) := Int.natCast_nonneg n
theorem fi1 {x c d : Int} (h : x ≤ c) (k : c ≤ d) : x ≤ d := Int.le_trans h k
theorem fi2 {x c d : Int} (h : c ≤ x) (k : d ≤ c) : d ≤ x := Int.le_trans k h
theorem fi3 {n : Nat} {c : Int} (k : c ≤ 0) : c ≤ (n : Int) := Int.le_trans k (Int.natCast_nonneg n)
theorem fi4 {n c : Nat} {d : Int} (h : n ≤ c) (k : (c : Int) ≤ d) : (n : Int) ≤ d := Int.le_trans (Int.ofNat_le.mpr h) k
theorem fi5 {n c : Nat} {d : Int} (h : c ≤ n) (k : d ≤ (c : Int)) : d ≤ (n : Int) := Int.le_trans k (Int.ofNat_le.mpr h)
theorem fi6 {x c d : Int} (h : x < c) (k : c ≤ d) : x ≤ d := Int.le_trans (Int.le_of_lt h) k
theorem fi7 {n m c : Nat} {d : Int} (e : m = n) (h : m ≤ c) (k : (c : Int) ≤ d) : (n : Int) ≤ d := Int.le_trans (Int.ofNat_le.mpr (e ▸ h)) k
theorem fi8 {n m c : Nat} {d : Int} (e : n = m) (h : m ≤ c) (k : (c : Int) ≤ d) : (n : Int) ≤ d := Int.le_trans (Int.ofNat_le.mpr (e ▸ h)) k
theorem fi9 {x c d : Int} (h : d < x) (k : c ≤ d) : c ≤ x := Int.le_trans k (Int.le_of_lt h)
theorem fj1 {x c d : Int} (h : x ≤ c) (k : c < d) : x < d := Int.lt_of_le_of_lt h k
theorem fj2 {x c d : Int} (h : x < c) (k : c ≤ d) : x < d := Int.lt_of_lt_of_le h k
theorem fj3 {x c d : Int} (h : c ≤ x) (k : d < c) : d < x := Int.lt_of_lt_of_le k h
theorem fj4 {n c : Nat} {d : Int} (h : n ≤ c) (k : (c : Int) < d) : (n : Int) < d := Int.lt_of_le_of_lt (Int.ofNat_le.mpr h) k
theorem fj5 {n : Nat} {c : Int} (k : c < 0) : c < (n : Int) := Int.lt_of_lt_of_le k (Int.natCast_nonneg n)
theorem fj6 {n m c : Nat} {d : Int} (e : m = n) (h : m ≤ c) (k : (c : Int) < d) : (n : Int) < d := Int.lt_of_le_of_lt (Int.ofNat_le.mpr (e ▸ h)) k
theorem fj7 {n m c : Nat} {d : Int} (e : n = m) (h : m ≤ c) (k : (c : Int) < d) : (n : Int) < d := Int.lt_of_le_of_lt (Int.ofNat_le.mpr (e ▸ h)) k
theorem fj8 {n c : Nat} {d : Int} (h : c ≤ n) (k : d < (c : Int)) : d < (n : Int) := Int.lt_of_lt_of_le k (Int.ofNat_le.mpr h)
theorem fk0 {k : Int} {n : Nat} (e : k = 0 + (n : Int)) : k = (n : Int) := e.trans (Int.zero_add _)
theorem fkT {n m : Nat} (h : n < ((m : Int) - 0).toNat) : n < m := by rwa [Int.sub_zero, Int.toNat_natCast] at h
theorem fkU {n m l : Nat} (h : n < ((l : Int) - (m : Int)).toNat) : m + n < l := by rw [Int.toNat_sub] at h; exact Nat.add_lt_of_lt_sub' h
theorem fk1 {k : Int} {n : Nat} (e : k = 0 + (n : Int)) : 0 ≤ k := fk0 e ▸ Int.natCast_nonneg n
theorem fk2 {k : Int} {n m : Nat} (e : k = (m : Int) + (n : Int)) : 0 ≤ k := e ▸ Int.natCast_nonneg (m + n)
theorem fk3 {k : Int} {n m : Nat} (e : k = 0 + (n : Int)) (h : n < ((m : Int) - 0).toNat) : k < (m : Int) := fk0 e ▸ Int.ofNat_lt.mpr (fkT h)
theorem fk4 {k : Int} {n m l : Nat} (e : k = 0 + (n : Int)) (h : n < ((m : Int) - 0).toNat) (g : m ≤ l) : k < (l : Int) := Int.lt_of_lt_of_le (fk3 e h) (Int.ofNat_le.mpr g)
theorem fk5 {k d : Int} {n m c : Nat} (e : k = 0 + (n : Int)) (h : n < ((m : Int) - 0).toNat) (g : m ≤ c) (r : (c : Int) ≤ d) : k < d := Int.lt_of_lt_of_le (fk4 e h g) r
theorem fk9 {k d : Int} {n m l c : Nat} (e : k = 0 + (n : Int)) (h : n < ((m : Int) - 0).toNat) (g : m ≤ l) (f : l ≤ c) (r : (c : Int) ≤ d) : k < d := fk5 e h (Nat.le_trans g f) r
theorem fk6 {k : Int} {n m l : Nat} (e : k = (m : Int) + (n : Int)) (h : n < ((l : Int) - (m : Int)).toNat) : k < (l : Int) := e ▸ Int.ofNat_lt.mpr (fkU h)
theorem fk7 {k d : Int} {n m l c : Nat} (e : k = (m : Int) + (n : Int)) (h : n < ((l : Int) - (m : Int)).toNat) (g : l ≤ c) (r : (c : Int) ≤ d) : k < d := Int.lt_of_lt_of_le (fk6 e h) (Int.le_trans (Int.ofNat_le.mpr g) r)
theorem fk8 {k d : Int} {m c : Nat} (h : k < (m : Int)) (g : m ≤ c) (r : (c : Int) ≤ d) : k < d := Int.lt_of_lt_of_le h (Int.le_trans (Int.ofNat_le.mpr g) r)
theorem fjA {d : Int} {m l c : Nat} (g : m ≤ l) (f : l ≤ c) (r : (c : Int) < d) : (m : Int) < d := fj4 (Nat.le_trans g f) r
theorem flA {m l c d : Nat} (g : m ≤ l) (f : l ≤ c) (r : c < d) : m < d := fl1 (Nat.le_trans g f) r
theorem fnD {m l c d : Nat} (g : m ≤ l) (f : l ≤ c) (r : c ≤ d) : m ≤ d := fn1 (Nat.le_trans g f) r
theorem fnE {a b : Nat} (h : ¬ (a : Int) < (b : Int)) : b ≤ a := Int.ofNat_le.mp (Int.not_lt.mp h)
theorem fnF {a b : Nat} (h : (a : Int) < (b : Int)) : a ≤ b := Nat.le_of_lt (Int.ofNat_lt.mp h)
theorem fm1 {x y n m c d : Nat} (e : x = y) (f : y = n) (h : n < ((m : Int) - 0).toNat) (g : m ≤ c) (r : c ≤ d) : x ≤ d := e.trans f ▸ fn2 (Nat.lt_of_lt_of_le (fkT h) g) r
theorem fm2 {x y n m l c d : Nat} (e : x = y) (f : y = n) (h : n < ((m : Int) - 0).toNat) (g : m ≤ l) (q : l ≤ c) (r : c ≤ d) : x ≤ d := fm1 e f h (Nat.le_trans g q) r
theorem fm3 {x y n m l c d : Nat} (e : x = y) (f : y = m + n) (h : n < ((l : Int) - (m : Int)).toNat) (g : l ≤ c) (r : c ≤ d) : x ≤ d := e.trans f ▸ fn2 (Nat.lt_of_lt_of_le (fkU h) g) r
theorem fe1 {n : Nat} : ((n : Int)).toNat = n := Int.toNat_natCast n
theorem fe2 {n : Nat} : (((n : Int)) - 0).toNat = n := by rw [Int.sub_zero, Int.toNat_natCast]
theorem fe3 {n : Nat} : ((n : Int) + 1) / 2 = (((n + 1) / 2 : Nat) : Int) := rfl
theorem fe4 {n : Nat} : (2 * (n : Int)).toNat = n + n := by rw [Int.two_mul]; rfl
theorem fx1 {l a : Int} (h : 2 > l) (k : a < 2) : a < max l 2 := Int.lt_of_lt_of_le k (Int.le_max_right l 2)
theorem fx2 {l a : Int} (h : ¬ 2 > l) (k : a < l) : a < max l 2 := Int.lt_of_lt_of_le k (Int.le_max_left l 2)
theorem fx3 {l : Int} {n m : Nat} (e : n = m) (h : 2 > l) (k : (m : Int) < 2) : (n : Int) < max l 2 := e ▸ fx1 h k
theorem fx4 {l : Int} {n m : Nat} (e : n = m) (h : ¬ 2 > l) (k : (m : Int) < l) : (n : Int) < max l 2 := e ▸ fx2 h k
theorem fEq {α : Type} {a b : α} (h : a = b) : a = b := h
theorem fNg {p : Prop} (h : ¬ p) : ¬ p := h
theorem fy1 {l a : Int} (h : 2 > l) (k : ¬ a < 2) : ¬ a < max l 2 := fun q => k (Int.lt_of_lt_of_le q (Int.max_le.mpr ⟨Int.le_of_lt h, Int.le_refl 2⟩))
theorem fy2 {l a : Int} (h : ¬ 2 > l) (k : ¬ a < l) : ¬ a < max l 2 := fun q => k (Int.lt_of_lt_of_le q (Int.max_le.mpr ⟨Int.le_refl l, Int.not_lt.mp h⟩))
theorem fy3 {l : Int} {n m : Nat} (e : n = m) (h : ¬ 2 > l) (k : ¬ (m : Int) < l) : ¬ (n : Int) < max l 2 := e ▸ fy2 h k
theorem fy4 {l : Int} {n : Nat} (h : 2 > l) (k : 2 ≤ n) : ¬ (n : Int) < max l 2 := fy1 h (Int.not_lt.mpr (Int.ofNat_le.mpr k))
theorem fy5 {l : Int} {n m : Nat} (e : n = m) (h : 2 > l) (k : 2 ≤ m) : ¬ (n : Int) < max l 2 := e ▸ fy4 h k
theorem fs1 {l a b c d : Nat} (h : l + (a + b + c) ≤ d) : l + a ≤ d := Nat.le_trans (Nat.add_le_add_left (Nat.le_trans (Nat.le_add_right a b) (Nat.le_add_right _ c)) l) h
theorem fs2 {l a b c d : Nat} (h : l + (a + b + c) ≤ d) : l + a + b ≤ d := Nat.le_trans (Nat.le_of_eq (Nat.add_assoc l a b)) (Nat.le_trans (Nat.add_le_add_left (Nat.le_add_right _ c) l) h)
theorem fs3 {l a b c d : Nat} (h : l + (a + b + c) ≤ d) : l + a + b + c ≤ d := by rw [Nat.add_assoc l a b, Nat.add_assoc l]; exact h
theorem fzA {x k z m : Nat} (h : x ≤ k) (f : k < z) (g : z < m + 1) : x < m := Nat.lt_of_lt_of_le (Nat.lt_of_le_of_lt h f) (Nat.le_of_lt_succ g)
theorem fh1 {x : Nat} (h : 2 ≤ x) : (x + 1) / 2 < x := by omega
theorem fh2 {x y : Nat} (e : x = y) (h : 2 ≤ y) : (x + 1) / 2 < x := fh1 (e ▸ h)
theorem fh3 {x c d : Nat} (h : x ≤ c) (k : c < d) : (x : Int).natAbs < d := fl1 h k
theorem fh4 {x y c d : Nat} (e : y = x) (h : y ≤ c) (k : c < d) : (x : Int).natAbs < d := fl7 e h k
theorem fiA {v a b c : Int} (h : a ≤ v) (k : c ≤ b + a) : c ≤ b + v := Int.le_trans k (Int.add_le_add_left h b)
theorem fiB {v a b c : Int} (h : v < a) (k : b + a ≤ c) : b + v ≤ c := Int.le_trans (Int.le_of_lt (Int.add_lt_add_left h b)) k
theorem fe5 {a b x : Int} (h : a + b = x) : x = b + a := (Int.add_comm a b ▸ h).symm
theorem fe6 {k : Int} {n : Nat} (e : k = 0 + (n : Int)) : k.toNat = n := fk0 e ▸ Int.toNat_natCast n
theorem fe7 {x y : Int} : x + y = y + x := Int.add_comm x y
theorem fe8 {a b : Nat} (h : (a : Int) = (b : Int)) : a = b := Int.ofNat_inj.mp h
theorem fiC {e m : Nat} : (e : Int) ≤ (e : Int) + (m : Int) := Int.le_add_of_nonneg_right (Int.natCast_nonneg m)
theorem fiD {x n m c : Nat} {d : Int} (h : x < n) (e : m = n) (g : m ≤ c) (k : (c : Int) ≤ d) : (x : Int) ≤ d := Int.le_trans (Int.ofNat_le.mpr (Nat.le_trans (Nat.le_of_lt h) (e ▸ g))) k
theorem fnG {x m y c d : Nat} (h : x ≤ m) (e : y = m) (g : y ≤ c) (k : c ≤ d) : x ≤ d := fn1 (Nat.le_trans h (e ▸ g)) k
theorem fnH {m : Nat} {l : Int} (h : ¬ 2 > l) (k : ¬ (m : Int) < l) : 2 ≤ m := Int.ofNat_le.mp (Int.le_trans (Int.not_lt.mp h) (Int.not_lt.mp k))
theorem fnI {m : Nat} (h : ¬ (m : Int) < 2) : 2 ≤ m := Int.ofNat_le.mp (Int.not_lt.mp h)
theorem fe9 {e m : Nat} : ((e : Int) + (m : Int) - (e : Int)).toNat = m := by rw [Int.add_comm, Int.add_sub_cancel, Int.toNat_natCast]
end Mine
end
set_option compiler.extract_closed false in
local macro_rules
  | `(tactic| omega) => do
    let go (w : String) : Lean.MacroM (Lean.TSyntax ``Lean.Parser.Tactic.tacticSeq) := do
      match w.splitOn "-" with
      | c :: s :: r =>
        let i := Lean.mkIdent (.str `Mine s)
        let a ← `(by assumption)
        let d ← `(by decide)
        let j := Lean.mkIdent (.str `Mine (r.headD ""))
        let g ← `($j $a)
        let args := (c.toList.map fun x => if x == 'A' then a else if x == 'D' then d else g).toArray
        `(Lean.Parser.Tactic.tacticSeq| exact $i $args*)
      | _ => Lean.Macro.throwUnsupported
    let ds := (List.range 15).map fun k => if k < 8 then "fA" ++ toString k else "fB" ++ toString (k - 7)
    let dg := " ".intercalate (["fNe-", "fEn-", "fNeG-", "fNs-"].map fun f => " ".intercalate (ds.map fun d => "G-" ++ f ++ d))
    let gs ← (("fNeG A-fNe A-fEn A-fNs -fSu1 -fUs1 -fSu2 -fUs2 -fSu3 -fUs3 A-fUp1 A-fPu1 A-fDn1 A-fNd1 A-fUp2 A-fPu2 A-fDn2 A-fNd2 A-fUp3 A-fPu3 A-fDn3 A-fNd3 A-fUp4 A-fPu4 AA-fFa AA-fAf AA-fTr AA-fRt|fN AD-fn1 AD-fn2 AD-fn3 AAD-fn3s AAD-fn3t AAD-fn4 AD-fn5 AD-fn6 AAD-fn7 AAD-fn8 AD-fn9 AA-fnA AAD-fnB AAAD-fnC AAD-fnD A-fnE A-fnF AAAAD-fm1 AAAAAD-fm2 AAAAD-fm3 A-fs1 A-fs2 A-fs3 GA-fnA-fA0 GA-fnA-fA1 GA-fnA-fA2 GA-fnA-fB1 GA-fnA-fB2 AAAD-fnG AA-fnH A-fnI|fNL AD-fl1 AD-fl2 AD-fl3 AD-fl4 AD-fl9 AD-fl5 AAD-fl6 AAD-fl7 AAD-fl8 AAD-flA GAA-fzA-fA0 GAA-fzA-fA1 GAA-fzA-fB2 A-fh1 AA-fh2 AD-fh3 AAD-fh4|fI -fi0 AD-fi1 AD-fi2 D-fi3 AD-fi4 AD-fi5 AD-fi6 AAD-fi7 AAD-fi8 AD-fi9 A-fk1 A-fk2 AD-fiA AD-fiB -fiC AAAD-fiD|fIL AD-fj1 AD-fj2 AD-fj3 AD-fj4 D-fj5 AAD-fj6 AAD-fj7 AD-fj8 AA-fk3 AAA-fk4 AAAD-fk5 AAAAD-fk9 AA-fk6 AAAD-fk7 AAD-fk8 AAD-fjA AA-fx1 AA-fx2 AAA-fx3 AAA-fx4|fNg AA-fy1 AA-fy2 AAA-fy3 AA-fy4 AAA-fy5|fEq -fe1 -fe2 -fe3 -fe4 A-fe5 A-fe6 -fe7 A-fe8 -fe9".splitOn "|").toArray).mapM fun t => do
      let t := if t.startsWith "fNeG" then t ++ " " ++ dg else t
      let l := t.splitOn " "
      let i := Lean.mkIdent (.str `Mine (l.headD ""))
      let a ← l.tail.toArray.mapM go
      `(Lean.Parser.Tactic.tacticSeq| refine $i ?_; first $[| $a]*)
    `(tactic| with_reducible (first | assumption | decide | (first $[| $gs]*) | fail))
section
namespace Mine

def Dig (B : Int) (ns : List Int) : Prop := ∀ d ∈ ns, 0 ≤ d ∧ d < B
def val (B : Int) : List Int → Int
  | [] => 0
  | d :: r => d + B * val B r
def Dg (B x : Int) (ns : List Int) : Prop := Dig B ns ∧ ns.getLast? ≠ some 0 ∧ val B ns = x

theorem Dig.nil {B : Int} : Dig B [] := fun _ h => nomatch h
theorem Dig.cons {B d : Int} {r : List Int} : Dig B (d :: r) ↔ (0 ≤ d ∧ d < B) ∧ Dig B r := List.forall_mem_cons
theorem Dig.append {B : Int} {a b : List Int} : Dig B (a ++ b) ↔ Dig B a ∧ Dig B b := List.forall_mem_append
theorem Dig.take {B : Int} {a : List Int} (h : Dig B a) (k : Nat) : Dig B (a.take k) := fun d hd => h d (List.mem_of_mem_take hd)
theorem Dig.drop {B : Int} {a : List Int} (h : Dig B a) (k : Nat) : Dig B (a.drop k) := fun d hd => h d (List.mem_of_mem_drop hd)
theorem Dig.get {B : Int} {a : List Int} (h : Dig B a) (hB : 0 < B) (k : Nat) : 0 ≤ a.getD k 0 ∧ a.getD k 0 < B := by
  rw [List.getD_eq_getElem?_getD]
  cases e : a[k]? with
  | none => exact ⟨by simp, by simpa using hB⟩
  | some d => simpa using h d (List.mem_of_getElem? e)

theorem val_append (B : Int) : ∀ a b : List Int, val B (a ++ b) = val B a + B ^ a.length * val B b
  | [], b => by simp [val]
  | d :: r, b => by
    simp only [List.cons_append, val, val_append B r b, List.length_cons]
    rw [Int.pow_succ, Int.mul_add, Int.add_assoc, ← Int.mul_assoc, Int.mul_comm B (B ^ r.length)]

theorem val_replicate (B : Int) : ∀ k, val B (List.replicate k 0) = 0
  | 0 => rfl
  | k + 1 => by simp [List.replicate_succ, val, val_replicate B k]

theorem val_bounds {B : Int} (hB : 1 ≤ B) : ∀ {ns : List Int}, Dig B ns → 0 ≤ val B ns ∧ val B ns < B ^ ns.length
  | [], _ => by simp [val]
  | d :: r, h => by
    obtain ⟨⟨h0, h1⟩, hr⟩ := Dig.cons.mp h
    obtain ⟨i0, i1⟩ := val_bounds hB hr
    simp only [val, List.length_cons, Int.pow_succ]
    refine ⟨Int.add_nonneg h0 (Int.mul_nonneg (by omega) i0), ?_⟩
    have h2 : B * (val B r + 1) ≤ B * B ^ r.length := Int.mul_le_mul_of_nonneg_left (by omega) (by omega)
    rw [Int.mul_add, Int.mul_one] at h2
    rw [Int.mul_comm (B ^ r.length) B]
    omega

theorem val_take_drop (B : Int) (ns : List Int) (k : Nat) (hk : k ≤ ns.length) : val B ns = val B (ns.take k) + B ^ k * val B (ns.drop k) := by
  have h := val_append B (ns.take k) (ns.drop k)
  rw [List.take_append_drop, List.length_take, Nat.min_eq_left hk] at h
  exact h

theorem pow_pos' {B : Int} (hB : 1 ≤ B) (k : Nat) : 0 < B ^ k := Int.pow_pos (by omega)

theorem divmod_of {x q r m : Int} (h : x = r + m * q) (h0 : 0 ≤ r) (h1 : r < m) : x % m = r ∧ x / m = q := by
  have hm : 0 < m := by omega
  subst h
  constructor
  · rw [Int.add_mul_emod_self_left]; exact Int.emod_eq_of_lt h0 h1
  · rw [Int.add_mul_ediv_left _ _ (by omega), Int.ediv_eq_zero_of_lt h0 h1]; omega

theorem val_take {B : Int} (hB : 1 ≤ B) {ns : List Int} (h : Dig B ns) (k : Nat) : val B (ns.take k) = val B ns % B ^ k := by
  by_cases hk : k ≤ ns.length
  · have b := val_bounds hB (h.take k)
    rw [List.length_take, Nat.min_eq_left hk] at b
    exact (divmod_of (val_take_drop B ns k hk) b.1 b.2).1.symm
  · rw [List.take_of_length_le (by omega)]
    have b := val_bounds hB h
    have e : B ^ k = B ^ ns.length * B ^ (k - ns.length) := by rw [← Int.pow_add]; congr 1; omega
    have p := pow_pos' hB (k - ns.length)
    have p2 := pow_pos' hB ns.length
    have : B ^ ns.length * 1 ≤ B ^ ns.length * B ^ (k - ns.length) := Int.mul_le_mul_of_nonneg_left (by omega) (by omega)
    rw [Int.emod_eq_of_lt b.1 (by omega)]
theorem val_drop {B : Int} (hB : 1 ≤ B) {ns : List Int} (h : Dig B ns) (k : Nat) : val B (ns.drop k) = val B ns / B ^ k := by
  by_cases hk : k ≤ ns.length
  · have b := val_bounds hB (h.take k)
    rw [List.length_take, Nat.min_eq_left hk] at b
    exact (divmod_of (val_take_drop B ns k hk) b.1 b.2).2.symm
  · rw [List.drop_of_length_le (by omega)]
    have b := val_bounds hB h
    have e : B ^ k = B ^ ns.length * B ^ (k - ns.length) := by rw [← Int.pow_add]; congr 1; omega
    have p := pow_pos' hB (k - ns.length)
    have p2 := pow_pos' hB ns.length
    have : B ^ ns.length * 1 ≤ B ^ ns.length * B ^ (k - ns.length) := Int.mul_le_mul_of_nonneg_left (by omega) (by omega)
    rw [Int.ediv_eq_zero_of_lt b.1 (by omega)]; rfl

/-- the top limb is not nought, so the number has its full length -/
theorem val_ge {B : Int} (hB : 1 ≤ B) {ns : List Int} (h : Dig B ns) (hl : ns.getLast? ≠ some 0) (hne : ns ≠ []) : B ^ (ns.length - 1) ≤ val B ns := by
  obtain ⟨r, d, rfl⟩ := (List.eq_nil_or_concat ns).resolve_left hne
  simp only [List.concat_eq_append] at *
  have hd := (Dig.append.mp h).2 d (by simp)
  have hr := val_bounds hB (Dig.append.mp h).1
  have hz : d ≠ 0 := by simpa using hl
  rw [val_append]
  simp only [val, List.length_append, List.length_cons, List.length_nil, Nat.zero_add, Nat.add_sub_cancel]
  have p := pow_pos' hB r.length
  have : B ^ r.length * 1 ≤ B ^ r.length * (d + B * 0) := Int.mul_le_mul_of_nonneg_left (by omega) (by omega)
  omega

section
variable {B x y : Int} {a b : List Int}
theorem Dg.dig (h : Dg B x a) : Dig B a := h.1
theorem Dg.last (h : Dg B x a) : a.getLast? ≠ some 0 := h.2.1
theorem Dg.val (h : Dg B x a) : val B a = x := h.2.2
theorem Dg.nonneg (hB : 1 ≤ B) (h : Dg B x a) : 0 ≤ x := h.val ▸ (val_bounds hB h.dig).1
theorem Dg.lt (hB : 1 ≤ B) (h : Dg B x a) : x < B ^ a.length := h.val ▸ (val_bounds hB h.dig).2
theorem Dg.ge (hB : 1 ≤ B) (h : Dg B x a) (hne : a ≠ []) : B ^ (a.length - 1) ≤ x := h.val ▸ val_ge hB h.dig h.last hne
theorem Dg.zero : Dg B 0 [] := ⟨.nil, by simp, rfl⟩
theorem Dg.pos (hB : 1 ≤ B) (h : Dg B x a) (hne : a ≠ []) : 0 < x := Int.lt_of_lt_of_le (pow_pos' hB _) (h.ge hB hne)
theorem pow_mono {B : Int} (hB : 1 ≤ B) {i j : Nat} (h : i ≤ j) : B ^ i ≤ B ^ j := by
  have e : B ^ j = B ^ i * B ^ (j - i) := by rw [← Int.pow_add]; congr 1; omega
  have p := pow_pos' hB (j - i)
  have p2 := pow_pos' hB i
  have : B ^ i * 1 ≤ B ^ i * B ^ (j - i) := Int.mul_le_mul_of_nonneg_left (by omega) (by omega)
  omega
theorem Dg.lt_of_len (hB : 1 ≤ B) (ha : Dg B x a) (hb : Dg B y b) (h : a.length < b.length) : x < y := by
  have h1 := ha.lt hB
  have h2 := hb.ge hB (by intro e; rw [e] at h; simp at h)
  have := pow_mono hB (show a.length ≤ b.length - 1 by omega)
  omega
theorem val_inj {B : Int} (hB : 1 ≤ B) : ∀ {a b : List Int}, Dig B a → Dig B b → a.length = b.length → Mine.val B a = Mine.val B b → a = b
  | [], [], _, _, _, _ => rfl
  | [], _ :: _, _, _, h, _ => by simp at h
  | _ :: _, [], _, _, h, _ => by simp at h
  | c :: a, d :: b, ha, hb, hl, hv => by
    obtain ⟨⟨c0, c1⟩, ha'⟩ := Dig.cons.mp ha
    obtain ⟨⟨d0, d1⟩, hb'⟩ := Dig.cons.mp hb
    simp only [Mine.val] at hv
    have e1 := divmod_of (x := c + B * Mine.val B a) rfl c0 c1
    have e2 := divmod_of (x := c + B * Mine.val B a) hv d0 d1
    have ec : c = d := e1.1.symm.trans e2.1
    have er := val_inj hB ha' hb' (by simpa using hl) (e1.2.symm.trans e2.2)
    rw [ec, er]
theorem Dg.unique (hB : 1 ≤ B) (ha : Dg B x a) (hb : Dg B x b) : a = b := by
  have h1 : ¬ a.length < b.length := fun h => by have := ha.lt_of_len hB hb h; omega
  have h2 : ¬ b.length < a.length := fun h => by have := hb.lt_of_len hB ha h; omega
  exact val_inj hB ha.dig hb.dig (by omega) (ha.val.trans hb.val.symm)
theorem Dg.of_nil (h : Dg B x []) : x = 0 := h.val.symm
theorem Dg.drop (hB : 1 ≤ B) (h : Dg B x a) (k : Nat) : Dg B (x / B ^ k) (a.drop k) := by
  refine ⟨h.dig.drop k, ?_, by rw [val_drop hB h.dig, h.val]⟩
  rw [List.getLast?_drop]
  split
  · simp
  · exact h.last
theorem Dg.eqv {z : Int} (h : Dg B x a) (e : x = z) : Dg B z a := e ▸ h
end
end Mine
end
section
namespace Mine

theorem getD_of_lt {a : List Int} {k : Nat} (h : k < a.length) : a.getD k 0 = a[k] := by simp [List.getD_eq_getElem?_getD, h]

theorem normal_math {B : Int} {ns : List Int} (h : Dig B ns) (k : Nat) (hk : k ≤ ns.length) (hz : ∀ j, k < j → j ≤ ns.length → ns.getD (j - 1) 0 = 0) (hl : k = 0 ∨ ns.getD (k - 1) 0 ≠ 0) :
    Dg B (val B ns) (ns.take k) := by
  refine ⟨h.take k, ?_, ?_⟩
  · rw [List.getLast?_eq_getElem?, List.length_take, Nat.min_eq_left hk, List.getElem?_take]
    rcases hl with rfl | hl
    · simp
    · by_cases h0 : k = 0
      · subst h0; simp
      · rw [if_pos (by omega)]
        intro e
        rw [List.getD_eq_getElem?_getD, e] at hl
        exact hl rfl
  · rw [val_take_drop B ns k hk]
    have : ns.drop k = List.replicate (ns.length - k) 0 := by
      apply List.ext_getElem
      · simp
      · intro i h1 h2
        simp only [List.length_drop] at h1
        simp only [List.getElem_drop, List.getElem_replicate]
        have := hz (k + i + 1) (by omega) (by omega)
        rwa [Nat.add_sub_cancel, getD_of_lt (by omega)] at this
    rw [this, val_replicate]; omega

theorem cmp_math {B : Int} (hB : 1 ≤ B) {a b : List Int} (ha : Dig B a) (hb : Dig B b) (hlen : a.length = b.length) (k : Nat) (hk : k < a.length) (he : ∀ j, k < j → j < a.length → a.getD j 0 = b.getD j 0) (hlt : a.getD k 0 < b.getD k 0) :
    val B a < val B b := by
  have hd : a.drop (k + 1) = b.drop (k + 1) := by
    apply List.ext_getElem
    · simp [hlen]
    · intro i h1 h2
      simp only [List.length_drop] at h1
      have := he (k + 1 + i) (by omega) (by omega)
      rw [getD_of_lt (by omega), getD_of_lt (by omega)] at this
      simpa using this
  have ea := val_take_drop B a k (by omega)
  have eb := val_take_drop B b k (by omega)
  have da : a.drop k = a.getD k 0 :: a.drop (k + 1) := by rw [getD_of_lt hk]; exact List.drop_eq_getElem_cons hk
  have db : b.drop k = b.getD k 0 :: b.drop (k + 1) := by rw [getD_of_lt (by omega)]; exact List.drop_eq_getElem_cons (by omega)
  rw [da] at ea
  rw [db, ← hd] at eb
  simp only [val] at ea eb
  have la := val_bounds hB (ha.take k)
  have lb := val_bounds hB (hb.take k)
  rw [List.length_take, Nat.min_eq_left (by omega)] at la lb
  have h1 : B ^ k * (a.getD k 0 + B * val B (a.drop (k + 1)) + 1) ≤ B ^ k * (b.getD k 0 + B * val B (a.drop (k + 1))) := Int.mul_le_mul_of_nonneg_left (by omega) (by omega)
  rw [Int.mul_add _ _ 1, Int.mul_one] at h1
  omega

theorem all_eq {a b : List Int} (hlen : a.length = b.length) (he : ∀ j, j < a.length → a.getD j 0 = b.getD j 0) : a = b := by
  apply List.ext_getElem hlen
  intro i h1 h2
  have := he i h1
  rwa [getD_of_lt h1, getD_of_lt h2] at this

def cmpI (x y : Int) : Int := if x < y then -1 else if x = y then 0 else 1
theorem cmpI_lt {x y : Int} (h : x < y) : cmpI x y = -1 := if_pos h
theorem cmpI_gt {x y : Int} (h : y < x) : cmpI x y = 1 := by unfold cmpI; rw [if_neg (by omega), if_neg (by omega)]
theorem cmpI_eq {x y : Int} (h : x = y) : cmpI x y = 0 := by unfold cmpI; rw [if_neg (by omega), if_pos h]
end Mine
namespace Mine
theorem val_take_succ (B : Int) (ns : List Int) (i : Nat) : val B (ns.take (i + 1)) = val B (ns.take i) + B ^ i * ns.getD i 0 := by
  by_cases h : i < ns.length
  · have : ns.take (i + 1) = ns.take i ++ [ns.getD i 0] := by rw [getD_of_lt h, List.take_add_one]; simp [h]
    rw [this, val_append, List.length_take, Nat.min_eq_left (by omega)]
    simp [val]
  · rw [List.take_of_length_le (by omega), List.take_of_length_le (by omega)]
    have : ns.getD i 0 = 0 := by simp [List.getD_eq_getElem?_getD, List.getElem?_eq_none (by omega : ns.length ≤ i)]
    rw [this]; omega

def AddI (B : Int) (ns ms : List Int) (i : Nat) (c : Int) (f : List Int) : Prop :=
  Dig B f ∧ f.length = i ∧ 0 ≤ c ∧ c ≤ 1 ∧ val B f + B ^ i * c = val B (ns.take i) + val B (ms.take i)
theorem AddI.start {B : Int} {ns ms : List Int} : AddI B ns ms 0 0 [] := ⟨.nil, rfl, by omega, by omega, by simp [val]⟩
theorem AddI.step {B : Int} (hB : 2 ≤ B) {ns ms : List Int} {i : Nat} {c a b c' d : Int} {f : List Int} (h : AddI B ns ms i c f) (hn : Dig B ns) (hm : Dig B ms)
    (ha : a = ns.getD i 0) (hb : b = ms.getD i 0) (hc : c' = (c + (a + b)) / B) (hd : d = (c + (a + b)) % B) : AddI B ns ms (i + 1) c' (f ++ [d]) := by
  obtain ⟨h1, h2, h3, h4, h5⟩ := h
  have a1 := hn.get (show 0 < B by omega) i
  have b1 := hm.get (show 0 < B by omega) i
  rw [← ha] at a1
  rw [← hb] at b1
  have d0 := Int.emod_nonneg (c + (a + b)) (show B ≠ 0 by omega)
  have d1 := Int.emod_lt_of_pos (c + (a + b)) (show 0 < B by omega)
  have e := Int.mul_ediv_add_emod (c + (a + b)) B
  rw [← hc, ← hd] at e
  rw [← hd] at d0 d1
  have c0 : 0 ≤ c' := by rw [hc]; exact Int.ediv_nonneg (by omega) (by omega)
  have c1 : c' < 2 := by rw [hc]; exact Int.ediv_lt_of_lt_mul (by omega) (by omega)
  refine ⟨Dig.append.mpr ⟨h1, Dig.cons.mpr ⟨⟨d0, d1⟩, .nil⟩⟩, by simp [h2], c0, by omega, ?_⟩
  rw [val_append, val_take_succ, val_take_succ, h2, ← ha, ← hb, Int.pow_succ]
  simp only [val, Int.mul_zero, Int.add_zero]
  have : B ^ i * B * c' = B ^ i * (B * c') := Int.mul_assoc ..
  have k : B ^ i * (B * c' + d) = B ^ i * (c + (a + b)) := by rw [e]
  rw [Int.mul_add, Int.mul_add, Int.mul_add] at k
  rw [this]
  omega

/-- limbs that reach their full length end in a limb that is not nought -/
theorem Dg.of_ge {B x : Int} (hB : 1 ≤ B) {a : List Int} (h : Dig B a) (hv : Mine.val B a = x) (hx : a ≠ [] → B ^ (a.length - 1) ≤ x) : Dg B x a := by
  refine ⟨h, ?_, hv⟩
  intro hl
  have hne : a ≠ [] := by intro e; rw [e] at hl; simp at hl
  have hx := hx hne
  obtain ⟨r, d, rfl⟩ := (List.eq_nil_or_concat a).resolve_left hne
  simp only [List.concat_eq_append] at *
  have hd : d = 0 := by simpa using hl
  have hr := val_bounds hB (Dig.append.mp h).1
  subst hd
  rw [val_append] at hv
  simp [Mine.val] at hv
  simp at hx
  omega

theorem AddI.finish {B x y : Int} (hB : 2 ≤ B) {ns ms : List Int} {c : Int} {f : List Int} (h : AddI B ns ms ns.length c f) (hx : Dg B x ns) (hy : Dg B y ms) (hlen : ms.length ≤ ns.length) :
    Dg B (x + y) (if 0 < c then f ++ [c] else f) := by
  obtain ⟨h1, h2, h3, h4, h5⟩ := h
  rw [List.take_of_length_le (by omega), List.take_of_length_le hlen, hx.val, hy.val] at h5
  have y0 := hy.nonneg (by omega)
  by_cases hc : 0 < c
  · rw [if_pos hc]
    have c1 : c = 1 := by omega
    subst c1
    refine Dg.of_ge (by omega) (Dig.append.mpr ⟨h1, Dig.cons.mpr ⟨⟨by omega, by omega⟩, .nil⟩⟩) (by rw [val_append, h2]; simp [val]; omega) ?_
    intro _
    simp [h2]
    have := val_bounds (by omega) h1
    omega
  · rw [if_neg hc]
    have c1 : c = 0 := by omega
    subst c1
    refine Dg.of_ge (by omega) h1 (by omega) ?_
    intro hne
    rw [h2]
    have : ns ≠ [] := by intro e; rw [e] at h2; exact hne (List.length_eq_zero_iff.mp h2)
    have := hx.ge (by omega) this
    omega
end Mine
end
section
namespace Mine
def SubI (B : Int) (ns ms : List Int) (i : Nat) (c : Int) (f : List Int) : Prop :=
  Dig B f ∧ f.length = i ∧ 0 ≤ c ∧ c ≤ 1 ∧ val B f = val B (ns.take i) - val B (ms.take i) + B ^ i * c
theorem SubI.start {B : Int} {ns ms : List Int} : SubI B ns ms 0 0 [] := ⟨.nil, rfl, by omega, by omega, by simp [val]⟩
theorem SubI.stepN {B : Int} (hB : 2 ≤ B) {ns ms : List Int} {i : Nat} {c a b l : Int} {f : List Int} (h : SubI B ns ms i c f) (hn : Dig B ns) (hm : Dig B ms)
    (ha : a = ns.getD i 0) (hb : b = ms.getD i 0) (hl : l = a - c - b) (hneg : l < 0) : SubI B ns ms (i + 1) 1 (f ++ [l + B]) := by
  obtain ⟨h1, h2, h3, h4, h5⟩ := h
  have a1 := hn.get (show 0 < B by omega) i
  have b1 := hm.get (show 0 < B by omega) i
  rw [← ha] at a1
  rw [← hb] at b1
  refine ⟨Dig.append.mpr ⟨h1, Dig.cons.mpr ⟨⟨by omega, by omega⟩, .nil⟩⟩, by simp [h2], by omega, by omega, ?_⟩
  rw [val_append, val_take_succ, val_take_succ, h2, ← ha, ← hb, Int.pow_succ]
  simp only [val, Int.mul_zero, Int.add_zero, Int.mul_one]
  subst hl
  simp only [Int.mul_add, Int.mul_sub]
  omega
theorem SubI.stepP {B : Int} (hB : 2 ≤ B) {ns ms : List Int} {i : Nat} {c a b l : Int} {f : List Int} (h : SubI B ns ms i c f) (hn : Dig B ns) (hm : Dig B ms)
    (ha : a = ns.getD i 0) (hb : b = ms.getD i 0) (hl : l = a - c - b) (hneg : ¬ l < 0) : SubI B ns ms (i + 1) 0 (f ++ [l]) := by
  obtain ⟨h1, h2, h3, h4, h5⟩ := h
  have a1 := hn.get (show 0 < B by omega) i
  have b1 := hm.get (show 0 < B by omega) i
  rw [← ha] at a1
  rw [← hb] at b1
  refine ⟨Dig.append.mpr ⟨h1, Dig.cons.mpr ⟨⟨by omega, by omega⟩, .nil⟩⟩, by simp [h2], by omega, by omega, ?_⟩
  rw [val_append, val_take_succ, val_take_succ, h2, ← ha, ← hb, Int.pow_succ]
  simp only [val, Int.mul_zero, Int.add_zero, Int.mul_one]
  subst hl
  simp only [Int.mul_add, Int.mul_sub]
  omega
theorem SubI.finish {B x y : Int} (hB : 2 ≤ B) {ns ms : List Int} {c : Int} {f : List Int} (h : SubI B ns ms ns.length c f) (hx : Dg B x ns) (hy : Dg B y ms) (hle : y ≤ x) :
    Dig B f ∧ Mine.val B f = x - y ∧ f.length = ns.length := by
  obtain ⟨h1, h2, h3, h4, h5⟩ := h
  have hlen : ms.length ≤ ns.length := by
    by_cases q : ms.length ≤ ns.length
    · exact q
    · have := hx.lt_of_len (by omega) hy (by omega)
      omega
  rw [List.take_of_length_le (by omega), List.take_of_length_le hlen, hx.val, hy.val] at h5
  have b := val_bounds (by omega) h1
  rw [h2] at b
  have y0 := hy.nonneg (by omega)
  by_cases q : c = 0
  · subst q
    exact ⟨h1, by omega, h2⟩
  · have : c = 1 := by omega
    subst this
    omega
end Mine
end
section
namespace Mine
theorem flat_rep (k : Nat) : (List.replicate k [(0 : Int)]).flatten = List.replicate k 0 := by
  induction k with
  | zero => rfl
  | succ k ih => rw [List.replicate_succ, List.flatten_cons, ih, List.replicate_succ]; rfl
theorem Dig.rep {B : Int} (hB : 1 ≤ B) (k : Nat) : Dig B (List.replicate k 0) := fun d hd => by
  have := (List.mem_replicate.mp hd).2
  omega
theorem last_append {a b : List Int} (hb : b ≠ []) (hl : b.getLast? ≠ some 0) : (a ++ b).getLast? ≠ some 0 := by
  rw [List.getLast?_append]
  cases e : b.getLast? with
  | none => exact absurd (List.getLast?_eq_none_iff.mp e) hb
  | some d => rw [e] at hl; simpa using hl
theorem addat_pad {B x y : Int} (hB : 1 ≤ B) {ns ms : List Int} {sp : Int} (hx : Dg B x ns) (hy : Dg B y ms) (hm : ms ≠ []) (hs : (ns.length : Int) ≤ sp) :
    Dg B (x + B ^ sp.toNat * y) (ns ++ (List.replicate (sp - (ns.length : Int)).toNat [0]).flatten ++ ms) := by
  rw [flat_rep]
  refine ⟨Dig.append.mpr ⟨Dig.append.mpr ⟨hx.dig, Dig.rep hB _⟩, hy.dig⟩, last_append hm hy.last, ?_⟩
  rw [val_append, val_append, val_replicate, hx.val, hy.val, List.length_append, List.length_replicate, show ns.length + (sp - (ns.length : Int)).toNat = sp.toNat by omega]
  omega
theorem addat_mid {B x y : Int} (hB : 1 ≤ B) {ns ms rs : List Int} {sp : Int} (h0 : 0 ≤ sp) (hx : Dg B x ns) (hy : Dg B y ms) (hm : ms ≠ []) (hs : ¬ (ns.length : Int) ≤ sp) (hr : Dg B (x / B ^ sp.toNat + y) rs) :
    Dg B (x + B ^ sp.toNat * y) (ns.take sp.toNat ++ rs) := by
  have y1 := hy.pos hB hm
  have x0 := hx.nonneg hB
  have p := pow_pos' hB sp.toNat
  have q0 : 0 ≤ x / B ^ sp.toNat := Int.ediv_nonneg x0 (by omega)
  have hne : rs ≠ [] := by intro e; rw [e] at hr; have := hr.of_nil; omega
  refine ⟨Dig.append.mpr ⟨hx.dig.take _, hr.dig⟩, last_append hne hr.last, ?_⟩
  rw [val_append, val_take hB hx.dig, hr.val, hx.val, List.length_take, Nat.min_eq_left (by omega), Int.mul_add]
  have := Int.mul_ediv_add_emod x (B ^ sp.toNat)
  omega
theorem addat_lt {B x y c : Int} (hB : 1 ≤ B) {k : Nat} (x0 : 0 ≤ x) (y0 : 0 ≤ y) (h : x + B ^ k * y < c) : x / B ^ k + y < c := by
  have p := pow_pos' hB k
  have h1 : x / B ^ k ≤ x := by
    have := Int.ediv_le_self (B ^ k) x0
    exact this
  have h2 : 1 * y ≤ B ^ k * y := Int.mul_le_mul_of_nonneg_right (by omega) y0
  omega
theorem pow_lt_inj {B : Int} (hB : 2 ≤ B) {i j : Nat} (h : B ^ i < B ^ j) : i < j := by
  rcases Nat.lt_or_ge i j with q | q
  · exact q
  · have := pow_mono (show 1 ≤ B by omega) q
    omega
theorem Dg.len_le {B x : Int} (hB : 2 ≤ B) {a : List Int} (h : Dg B x a) {k : Nat} (hx : x < B ^ k) : a.length ≤ k := by
  by_cases e : a = []
  · subst e; simp
  · have := pow_lt_inj hB (Int.lt_of_le_of_lt (h.ge (by omega) e) hx)
    have : a.length ≠ 0 := by simpa using e
    omega
end Mine
end
section
namespace Mine
def bl (x : Int) : Nat := if x == 0 then 0 else x.natAbs.log2 + 1
theorem bl_le {x : Int} {k : Nat} : bl x ≤ k ↔ x.natAbs < 2 ^ k := by
  unfold bl
  by_cases e : x = 0
  · subst e
    simp
    exact Nat.pow_pos (by decide)
  · have hn : x.natAbs ≠ 0 := by omega
    rw [show (x == 0) = false from beq_eq_false_iff_ne.mpr e]
    simp only [Bool.false_eq_true, if_false]
    rw [Nat.succ_le_iff, Nat.log2_lt hn]
/-- the count of limbs -/
def sz (w : Nat) (x : Int) : Nat := (bl x + w - 1) / w
theorem sz_le {w : Nat} (hw : 1 ≤ w) {x : Int} (hx : 0 ≤ x) {k : Nat} : sz w x ≤ k ↔ x < ((2 : Int) ^ w) ^ k := by
  have h1 : sz w x ≤ k ↔ bl x ≤ w * k := by
    unfold sz
    rw [← Nat.lt_succ_iff, Nat.div_lt_iff_lt_mul (by omega), Nat.succ_mul, Nat.mul_comm k w]
    omega
  rw [h1, bl_le, ← Int.pow_mul]
  have e : ((2 : Int) ^ (w * k)) = ((2 ^ (w * k) : Nat) : Int) := by simp
  rw [e]
  omega
theorem sz_len {w : Nat} (hw : 1 ≤ w) {x : Int} {ns : List Int} (h : Dg ((2 : Int) ^ w) x ns) : sz w x = ns.length := by
  have hB : (1 : Int) ≤ 2 ^ w := pow_pos' (by omega) w
  have x0 := h.nonneg hB
  have h1 := (sz_le hw x0).mpr (h.lt hB)
  by_cases e : ns = []
  · subst e; simp at h1 ⊢; exact h1
  · have h2 : ¬ sz w x ≤ ns.length - 1 := fun q => by
      have := (sz_le hw x0).mp q
      have := h.ge hB e
      omega
    have : ns.length ≠ 0 := by simpa using e
    omega
theorem sz_mono {w : Nat} (hw : 1 ≤ w) {x y : Int} (hx : 0 ≤ x) (h : x ≤ y) : sz w x ≤ sz w y :=
  (sz_le hw hx).mpr (Int.lt_of_le_of_lt h ((sz_le hw (by omega)).mp (Nat.le_refl _)))
theorem sz_lt_self {w : Nat} (hw : 1 ≤ w) {x : Int} (hx : 0 ≤ x) : x < ((2 : Int) ^ w) ^ (sz w x) := (sz_le hw hx).mp (Nat.le_refl _)

/-- the products that are asked, the longer number first -/
def prodsC (w : Nat) (least : Int) (rec : Int → Int → List (Int × Int)) (x y : Int) : List (Int × Int) :=
  if (sz w y : Int) < max least 2 then [(x, y)]
  else if 2 * sz w y ≤ sz w x then (List.range ((sz w x + sz w y - 1) / sz w y)).flatMap fun i => rec (x / ((2 : Int) ^ w) ^ (i * sz w y) % ((2 : Int) ^ w) ^ sz w y) y
  else
    let half := ((2 : Int) ^ w) ^ ((sz w x + 1) / 2)
    rec (x % half) (y % half) ++ rec (x / half) (y / half) ++ rec ((x % half - x / half).natAbs : Int) ((y % half - y / half).natAbs : Int)
def prodsF (w : Nat) (least : Int) : Nat → Int → Int → List (Int × Int)
  | 0, _, _ => []
  | n + 1, x, y => if sz w x < sz w y then prodsC w least (prodsF w least n) y x else prodsC w least (prodsF w least n) x y
def sqrsF (w : Nat) (least : Int) : Nat → Int → List Int
  | 0, _ => []
  | n + 1, x => if (sz w x : Int) < max least 2 then [x] else
    let half := ((2 : Int) ^ w) ^ ((sz w x + 1) / 2)
    sqrsF w least n (x % half) ++ sqrsF w least n (x / half) ++ sqrsF w least n ((x % half - x / half).natAbs : Int)

section
variable {w : Nat} {x y B : Int} {k : Nat}
theorem mod_bounds (hB : 1 ≤ B) (k : Nat) : 0 ≤ x % B ^ k ∧ x % B ^ k < B ^ k := by
  have p := pow_pos' hB k
  exact ⟨Int.emod_nonneg _ (by omega), Int.emod_lt_of_pos _ p⟩
theorem mod_le (hB : 1 ≤ B) (hx : 0 ≤ x) (k : Nat) : x % B ^ k ≤ x := by
  have p := pow_pos' hB k
  have e := Int.mul_ediv_add_emod x (B ^ k)
  have d : 0 ≤ x / B ^ k := Int.ediv_nonneg hx (by omega)
  have := Int.mul_nonneg (show 0 ≤ B ^ k by omega) d
  omega
theorem div_bounds (hB : 1 ≤ B) (hx : 0 ≤ x) (k : Nat) : 0 ≤ x / B ^ k ∧ x / B ^ k ≤ x := ⟨Int.ediv_nonneg hx (by have := pow_pos' hB k; omega), Int.ediv_le_self _ hx⟩
theorem div_lt_pow (hB : 1 ≤ B) {n : Nat} (hx : x < B ^ n) (hk : k ≤ n) : x / B ^ k < B ^ (n - k) := by
  have p := pow_pos' hB k
  refine Int.ediv_lt_of_lt_mul p ?_
  rw [← Int.pow_add, show n - k + k = n by omega]
  exact hx
/-- both halves, and their distance, are shorter than the whole -/
theorem halves (hw : 1 ≤ w) (hx : 0 ≤ x) (hn : 2 ≤ sz w x) :
    sz w (x % ((2 : Int) ^ w) ^ ((sz w x + 1) / 2)) ≤ (sz w x + 1) / 2 ∧ sz w (x / ((2 : Int) ^ w) ^ ((sz w x + 1) / 2)) ≤ (sz w x + 1) / 2 ∧
      sz w ((x % ((2 : Int) ^ w) ^ ((sz w x + 1) / 2) - x / ((2 : Int) ^ w) ^ ((sz w x + 1) / 2)).natAbs : Int) ≤ (sz w x + 1) / 2 := by
  have hB : (1 : Int) ≤ 2 ^ w := pow_pos' (by omega) w
  have m := mod_bounds (x := x) hB ((sz w x + 1) / 2)
  have d := div_bounds (x := x) hB hx ((sz w x + 1) / 2)
  have l := div_lt_pow hB (sz_lt_self hw hx) (show (sz w x + 1) / 2 ≤ sz w x by omega)
  have l2 := pow_mono hB (show sz w x - (sz w x + 1) / 2 ≤ (sz w x + 1) / 2 by omega)
  exact ⟨(sz_le hw m.1).mpr m.2, (sz_le hw d.1).mpr (by omega), (sz_le hw (by omega)).mpr (by omega)⟩
/-- the parts of the other number are no longer than it is -/
theorem parts (hw : 1 ≤ w) (hy : 0 ≤ y) (k : Nat) :
    sz w (y % ((2 : Int) ^ w) ^ k) ≤ sz w y ∧ sz w (y / ((2 : Int) ^ w) ^ k) ≤ sz w y ∧ sz w ((y % ((2 : Int) ^ w) ^ k - y / ((2 : Int) ^ w) ^ k).natAbs : Int) ≤ sz w y := by
  have hB : (1 : Int) ≤ 2 ^ w := pow_pos' (by omega) w
  have m := mod_bounds (x := y) hB k
  have m2 := mod_le hB hy k
  have d := div_bounds (x := y) hB hy k
  exact ⟨sz_mono hw m.1 m2, sz_mono hw d.1 d.2, sz_mono hw (by omega) (by omega)⟩
theorem piece_sz (hw : 1 ≤ w) (i k : Nat) : sz w (x / ((2 : Int) ^ w) ^ i % ((2 : Int) ^ w) ^ k) ≤ k := by
  have hB : (1 : Int) ≤ 2 ^ w := pow_pos' (by omega) w
  have m := mod_bounds (x := x / ((2 : Int) ^ w) ^ i) hB k
  exact (sz_le hw m.1).mpr m.2
end

/-- Karatsuba's identity -/
theorem kara {xl xh yl yh S : Int} :
    xl * yl + S * (if (decide (xl < xh) != decide (yl < yh)) then xl * yl + xh * yh + ((xl - xh).natAbs : Int) * ((yl - yh).natAbs : Int) else xl * yl + xh * yh - ((xl - xh).natAbs : Int) * ((yl - yh).natAbs : Int)) + S * S * (xh * yh)
      = (xl + S * xh) * (yl + S * yh) := by
  by_cases h1 : xl < xh <;> by_cases h2 : yl < yh
  · rw [show ((xl - xh).natAbs : Int) = xh - xl by omega, show ((yl - yh).natAbs : Int) = yh - yl by omega]
    simp only [h1, h2, decide_true, bne_self_eq_false, Bool.false_eq_true, if_false]
    grind
  · rw [show ((xl - xh).natAbs : Int) = xh - xl by omega, show ((yl - yh).natAbs : Int) = yl - yh by omega]
    simp only [h1, h2, decide_true, decide_false, Bool.true_bne, Bool.not_false, if_true]
    grind
  · rw [show ((xl - xh).natAbs : Int) = xl - xh by omega, show ((yl - yh).natAbs : Int) = yh - yl by omega]
    simp only [h1, h2, decide_true, decide_false, Bool.false_bne, if_true]
    grind
  · rw [show ((xl - xh).natAbs : Int) = xl - xh by omega, show ((yl - yh).natAbs : Int) = yl - yh by omega]
    simp only [h1, h2, decide_false, bne_self_eq_false, Bool.false_eq_true, if_false]
    grind
theorem kara_le {xl xh yl yh : Int} (h0 : 0 ≤ xl) (h1 : 0 ≤ xh) (h2 : 0 ≤ yl) (h3 : 0 ≤ yh) (hb : (decide (xl < xh) != decide (yl < yh)) = false) :
    ((xl - xh).natAbs : Int) * ((yl - yh).natAbs : Int) ≤ xl * yl + xh * yh := by
  have c1 := Int.mul_nonneg h0 h3
  have c2 := Int.mul_nonneg h1 h2
  by_cases q1 : xl < xh <;> by_cases q2 : yl < yh
  · rw [show ((xl - xh).natAbs : Int) = xh - xl by omega, show ((yl - yh).natAbs : Int) = yh - yl by omega]
    have : (xh - xl) * (yh - yl) = xl * yl + xh * yh - xl * yh - xh * yl := by grind
    omega
  · simp [q1, q2] at hb
  · simp [q1, q2] at hb
  · rw [show ((xl - xh).natAbs : Int) = xl - xh by omega, show ((yl - yh).natAbs : Int) = yl - yh by omega]
    have : (xl - xh) * (yl - yh) = xl * yl + xh * yh - xl * yh - xh * yl := by grind
    omega
end Mine
end
section
namespace Mine
theorem three_half {k : Nat} (h : 2 ≤ k) : 3 * 3 ^ ((k + 1) / 2) ≤ 3 ^ k := by
  rw [← Nat.pow_succ']
  exact Nat.pow_le_pow_right (by decide) (by omega)
theorem sqrs_len {w : Nat} (hw : 1 ≤ w) (least : Int) : ∀ (n : Nat) (x : Int), 0 ≤ x → (sqrsF w least n x).length ≤ 3 ^ sz w x
  | 0, _, _ => by simp [sqrsF]
  | n + 1, x, hx => by
    rw [sqrsF]
    split
    · exact Nat.pow_pos (n := sz w x) (show 0 < 3 by decide)
    · rename_i hs
      have h2 : 2 ≤ sz w x := by omega
      have hv := halves hw hx h2
      have hB : (1 : Int) ≤ 2 ^ w := pow_pos' (by omega) w
      have b1 := (mod_bounds (x := x) hB ((sz w x + 1) / 2)).1
      have b2 := (div_bounds (x := x) hB hx ((sz w x + 1) / 2)).1
      have i1 := sqrs_len hw least n _ b1
      have i2 := sqrs_len hw least n _ b2
      have i3 := sqrs_len hw least n ((x % ((2 : Int) ^ w) ^ ((sz w x + 1) / 2) - x / ((2 : Int) ^ w) ^ ((sz w x + 1) / 2)).natAbs : Int) (by omega)
      have p1 := Nat.pow_le_pow_right (show 0 < 3 by decide) hv.1
      have p2 := Nat.pow_le_pow_right (show 0 < 3 by decide) hv.2.1
      have p3 := Nat.pow_le_pow_right (show 0 < 3 by decide) hv.2.2
      have t := three_half h2
      simp only [List.length_append]
      omega
theorem flat_len {α : Type} (f : Nat → List α) (m c : Nat) (h : ∀ i, (f i).length ≤ m) : ((List.range c).flatMap f).length ≤ c * m := by
  induction c with
  | zero => simp
  | succ c ih =>
    rw [List.range_succ, List.flatMap_append, List.length_append, Nat.succ_mul]
    have := h c
    simp only [List.flatMap_cons, List.flatMap_nil, List.append_nil]
    omega
theorem lt_three (m : Nat) : m + 1 ≤ 3 ^ m := by
  induction m with
  | zero => simp
  | succ m ih => rw [Nat.pow_succ]; omega
theorem count_le {a b : Nat} (hb : 2 ≤ b) (h : 2 * b ≤ a) : (a + b - 1) / b * 3 ^ b ≤ 3 ^ a := by
  obtain ⟨c, rfl⟩ : ∃ c, b = c + 1 := ⟨b - 1, by omega⟩
  obtain ⟨d, rfl⟩ : ∃ d, a = c + 1 + (d + 1) := ⟨a - (c + 2), by omega⟩
  have h1 : (c + 1 + (d + 1) + (c + 1) - 1) / (c + 1) ≤ d + 1 + 1 := by
    rw [← Nat.lt_succ_iff, Nat.div_lt_iff_lt_mul (by omega)]
    have : (d + 1 + 1).succ * (c + 1) = d * c + d + 3 * c + 3 := by rw [Nat.succ_mul]; simp only [Nat.add_mul, Nat.mul_add]; omega
    have h3 := Nat.zero_le (d * c)
    generalize d * c = q at *
    omega
  have h2 := lt_three (d + 1)
  calc _ ≤ (d + 1 + 1) * 3 ^ (c + 1) := Nat.mul_le_mul_right _ h1
    _ ≤ 3 ^ (d + 1) * 3 ^ (c + 1) := Nat.mul_le_mul_right _ h2
    _ = _ := by rw [← Nat.pow_add]; congr 1; omega
theorem prodsC_len {w : Nat} (hw : 1 ≤ w) (least : Int) (rec : Int → Int → List (Int × Int)) (ih : ∀ x y, 0 ≤ x → 0 ≤ y → (rec x y).length ≤ 3 ^ max (sz w x) (sz w y)) (x y : Int) (hx : 0 ≤ x) (hy : 0 ≤ y) (h : sz w y ≤ sz w x) :
    (prodsC w least rec x y).length ≤ 3 ^ sz w x := by
  have hB : (1 : Int) ≤ 2 ^ w := pow_pos' (by omega) w
  unfold prodsC
  split
  · exact Nat.pow_pos (n := sz w x) (show 0 < 3 by decide)
  · split
    · refine Nat.le_trans (flat_len _ (3 ^ sz w y) _ fun i => ?_) (count_le (by omega) (by omega))
      refine Nat.le_trans (ih _ _ (mod_bounds hB _).1 hy) (Nat.pow_le_pow_right (by decide) ?_)
      have := piece_sz hw (x := x) (i * sz w y) (sz w y)
      omega
    · rename_i hs hu
      have h2 : 2 ≤ sz w x := by omega
      have hv := halves hw hx h2
      have b1 := (mod_bounds (x := x) hB ((sz w x + 1) / 2)).1
      have b2 := (div_bounds (x := x) hB hx ((sz w x + 1) / 2)).1
      have c1 := (mod_bounds (x := y) hB ((sz w x + 1) / 2)).1
      have c2 := (div_bounds (x := y) hB hy ((sz w x + 1) / 2)).1
      have hm := (mod_bounds (x := y) hB ((sz w x + 1) / 2)).2
      have hd : sz w y ≤ sz w x := h
      have l := div_lt_pow hB (sz_lt_self hw hy) (show (sz w x + 1) / 2 ≤ sz w y by omega)
      have l2 := pow_mono hB (show sz w y - (sz w x + 1) / 2 ≤ (sz w x + 1) / 2 by omega)
      have s1 := (sz_le hw c1).mpr hm
      have s2 : sz w (y / ((2 : Int) ^ w) ^ ((sz w x + 1) / 2)) ≤ (sz w x + 1) / 2 := (sz_le hw c2).mpr (by omega)
      have s3 := (sz_le hw (show (0 : Int) ≤ ((y % ((2 : Int) ^ w) ^ ((sz w x + 1) / 2) - y / ((2 : Int) ^ w) ^ ((sz w x + 1) / 2)).natAbs : Int) by omega)).mpr (show _ < ((2 : Int) ^ w) ^ ((sz w x + 1) / 2) by omega)
      have i1 := ih _ _ b1 c1
      have i2 := ih _ _ b2 c2
      have i3 := ih ((x % ((2 : Int) ^ w) ^ ((sz w x + 1) / 2) - x / ((2 : Int) ^ w) ^ ((sz w x + 1) / 2)).natAbs : Int) ((y % ((2 : Int) ^ w) ^ ((sz w x + 1) / 2) - y / ((2 : Int) ^ w) ^ ((sz w x + 1) / 2)).natAbs : Int) (by omega) (by omega)
      have p1 := Nat.pow_le_pow_right (show 0 < 3 by decide) (Nat.max_le.mpr ⟨hv.1, s1⟩)
      have p2 := Nat.pow_le_pow_right (show 0 < 3 by decide) (Nat.max_le.mpr ⟨hv.2.1, s2⟩)
      have p3 := Nat.pow_le_pow_right (show 0 < 3 by decide) (Nat.max_le.mpr ⟨hv.2.2, s3⟩)
      have t := three_half h2
      simp only [List.length_append]
      omega
theorem prods_len {w : Nat} (hw : 1 ≤ w) (least : Int) : ∀ (n : Nat) (x y : Int), 0 ≤ x → 0 ≤ y → (prodsF w least n x y).length ≤ 3 ^ max (sz w x) (sz w y)
  | 0, _, _, _, _ => by simp [prodsF]
  | n + 1, x, y, hx, hy => by
    rw [prodsF]
    split
    · refine Nat.le_trans (prodsC_len hw least _ (prods_len hw least n) y x hy hx (by omega)) (Nat.pow_le_pow_right (by decide) (by omega))
    · refine Nat.le_trans (prodsC_len hw least _ (prods_len hw least n) x y hx hy (by omega)) (Nat.pow_le_pow_right (by decide) (by omega))
end Mine
end
open PySem PySem.W PyProof.Rows
namespace Mine
open_top hd for PySem.Challenge.rw_pq0534_01
theorem calm : True := by
  w_top off
  k_with_none
  exact True.intro
end Mine
section
open PySem PySem.W PyProof.Rows PySem.Calls
namespace Mine

abbrev AR (dp un : Nat) (fr : Option (List Env)) (gd : Option (List Code)) : Around := { handled := none, depth := dp, frames := fr, guards := gd, units := un }

theorem up900 {d : Nat} (h : d < 850) : d < 900 := Nat.lt_of_lt_of_le h (by decide)
theorem up890 {d : Nat} (h : d < 850) : d < 890 := Nat.lt_of_lt_of_le h (by decide)
theorem up880 {d : Nat} (h : d < 850) : d < 880 := Nat.lt_of_lt_of_le h (by decide)
theorem upDp {d n : Nat} (h : d + 2 * (n + 1) < 850) : d + 1 < 850 ∧ d + 1 + 2 * n < 850 := by omega
theorem natInt (k : Nat) : (0 : Int) ≤ ((k : Nat) : Int) := Int.natCast_nonneg k
theorem enter {prog : Program} {w : World} {A : Around} {s : Shared} {K : Frag} {p : Program} {loose : List Str} {mean : ExcName → Option Value} {mg mb : Str → Option Value}
    {R : Result → Shared → Prop} {name qual : Str} {params : Arguments} {body : List Stmt} {scope : Scope} {dV kV doc pm cdv ct oc : Value} {an od : Option Addr} {osl : Array (Option Value)} {f : Addr} {args : Args} (binds : List (Str × Value))
    (X : K.In s.heap) (T : Top p loose mean mg mb s.heap)
    (ho : K.lookup f = some ⟨oc, od, .func (fnOf name qual params body scope dV kV doc pm an cdv ct), osl⟩) (hcd : codeIn K cdv qual = true) (hroom : A.depth < recursionLimit)
    (hbind : BindsTo s (fnOf name qual params body scope dV kV doc pm an cdv ct) args binds) (hloc : ∀ y ∈ binds, scope.names.lookup y.1 = some .local)
    (h : ∀ L' h₁ tk', Fr s.heap L' h₁ (fun y => binds.reverse.lookup y) → News s.heap L' h₁ [] →
      wpAny (model prog w) (A.deeper (envOf qual scope L' f cdv)) (execs body (envOf qual scope L' f cdv))
        (fun fl s' => R (.ok (.ret (match fl with | .ret v => v | _ => .none))) s') (fun _ _ => False)
        { s with heap := h₁, toks := tk' })
    (hco : scope.isCoroutine = false) (hgen : scope.isGenerator = false) (hk : scope.kind = .function)
    (hcell : ∀ x ∈ scope.names, x.2 ≠ .cell) : codeAny (model prog w) A (.call (.ref f) args) R s := by
  refine codeAny_call_def (fd := fnOf name qual params body scope dV kV doc pm an cdv ct) (body := body) (binds := binds) hroom (X _ _ ho) rfl T.nolimit (codeRec_of X hcd) rfl hbind hcell hloc (fun h₁ hns hk₁ => ?_) hco hgen hk
  exact wpAny_mono (h s.heap.objs.size h₁ _ ⟨hns, hk₁, Nat.le_refl _⟩ News.nil) (fun _ _ x => x) fun _ _ x => x.elim

def CallR (prog : Program) (w : World) (A : Around) (f : Addr) (vals : List Value) (s : Shared) (Post : Value → Heap → Prop) : Prop :=
  ∀ R : Result → Shared → Prop, (∀ r h' tk', s.heap.StaysIn h' → Post r h' → R (.ok (.ret r)) { s with heap := h', toks := tk' }) → codeAny (model prog w) A (.call (.ref f) ⟨vals, []⟩) R s

/-- a fresh list of ints -/
def FreshL (h h' : Heap) (r : Value) (ns : List Int) : Prop := ∃ a n vs, r = .ref a ∧ h.get? a = none ∧ h'.get? a = some (listOf vs.toArray n) ∧ IntsAre vs ns
/-- a fresh list of the limbs of x -/
def FreshD (h h' : Heap) (r : Value) (B x : Int) : Prop := ∃ ns, FreshL h h' r ns ∧ Dg B x ns ∧ ns.length ≤ 300
/-- a value is a list of the limbs of x, not too long -/
def LD (h : Heap) (v : Value) (B x : Int) : Prop := ∃ a vs ns, v = .ref a ∧ h.IsList a vs.toArray ∧ IntsAre vs ns ∧ Dg B x ns ∧ ns.length ≤ 300

theorem freshD_of {g h' : Heap} {L l : Addr} {news : List (Addr × Obj)} {items : Array Value} {n : Nat} {fs : List Int} {B x : Int} (N : News g L h' news) (hm : (l, listOf items n) ∈ news) (hi : IntsAre items.toList fs) (hd : Dg B x fs) (hn : fs.length ≤ 300) :
    FreshD g h' (.ref l) B x := ⟨fs, ⟨l, n, items.toList, rfl, N.fresh hm, N.get hm, hi⟩, hd, hn⟩
theorem ints_snoc {vs : List Value} {ns : List Int} {k : Int} {t : Tok} (h : IntsAre vs ns) : IntsAre (vs ++ [.int k t]) (ns ++ [k]) := by
  induction h with
  | nil => exact .cons _ _ .nil
  | cons n t _ ih => exact .cons n t ih
theorem ints_push {vs : List Value} {ns : List Int} {k : Int} {t : Tok} (h : IntsAre vs ns) : IntsAre (vs.toArray.push (.int k t)).toList (ns ++ [k]) := by
  rw [Array.toList_push]; exact ints_snoc h

/-- a value is a list of digits below B, worth x -/
def DL (h : Heap) (v : Value) (B x : Int) : Prop := ∃ a vs ns, v = .ref a ∧ h.IsList a vs.toArray ∧ IntsAre vs ns ∧ Dig B ns ∧ val B ns = x ∧ ns.length ≤ 300
theorem LD.dl {h : Heap} {v : Value} {B x : Int} (d : LD h v B x) : DL h v B x := let ⟨a, vs, ns, e, l, i, g, n⟩ := d; ⟨a, vs, ns, e, l, i, g.dig, g.val, n⟩

theorem LD.keeps {g h : Heap} {v : Value} {B x : Int} (d : LD g v B x) (k : ∀ b o, g.get? b = some o → h.get? b = some o) : LD h v B x :=
  let ⟨a, vs, ns, e, l, i, z⟩ := d
  ⟨a, vs, ns, e, l.at fun o q => k _ o q, i, z⟩
theorem newsStay {g h h' : Heap} {L : Addr} {news : List (Addr × Obj)} (N : News g L h news) (k : ∀ b o, h.get? b = some o → h'.get? b = some o) : News g L h' news := fun p hp => ⟨k _ _ (N p hp).1, (N p hp).2⟩
theorem freshUp {g h : Heap} {a : Addr} (k : ∀ b o, g.get? b = some o → h.get? b = some o) (e : h.get? a = none) : g.get? a = none := by
  cases q : g.get? a with
  | none => rfl
  | some o => rw [k _ _ q] at e; cases e
theorem FreshD.lift {g h h' : Heap} {r : Value} {B x : Int} (k : ∀ b o, g.get? b = some o → h.get? b = some o) (d : FreshD h h' r B x) : FreshD g h' r B x :=
  let ⟨ns, ⟨a, n, vs, e, f, q, i⟩, z⟩ := d
  ⟨ns, ⟨a, n, vs, e, freshUp k f, q, i⟩, z⟩
theorem dlNews {g h : Heap} {L l : Addr} {news : List (Addr × Obj)} {items : Array Value} {n : Nat} {fs : List Int} {B x : Int} (N : News g L h news) (hm : (l, listOf items n) ∈ news) (hi : IntsAre items.toList fs) (hd : Dig B fs) (hv : val B fs = x) (hn : fs.length ≤ 300) :
    DL h (.ref l) B x := ⟨l, items.toList, fs, rfl, ⟨_, N.get hm, rfl, n, rfl⟩, hi, hd, hv, hn⟩
theorem ldNews {g h : Heap} {L l : Addr} {news : List (Addr × Obj)} {items : Array Value} {n : Nat} {fs : List Int} {B x : Int} (N : News g L h news) (hm : (l, listOf items n) ∈ news) (hi : IntsAre items.toList fs) (hd : Dg B x fs) (hn : fs.length ≤ 300) :
    LD h (.ref l) B x := ⟨l, items.toList, fs, rfl, ⟨_, N.get hm, rfl, n, rfl⟩, hi, hd, hn⟩
/-- what a call handed back joins the ledger -/
theorem joinD {g h h' : Heap} {L : Addr} {m : Str → Option Value} {news : List (Addr × Obj)} {r : Value} {B x : Int} (F : Fr g L h m) (N : News g L h news) (k : h.StaysIn h') (d : FreshD h h' r B x) :
    ∃ a n vs ns, r = .ref a ∧ Fr g L h' m ∧ News g L h' ((a, listOf vs.toArray n) :: news) ∧ IntsAre vs ns ∧ Dg B x ns ∧ ns.length ≤ 300 ∧ ∀ p ∈ news, p.1 ≠ a := by
  obtain ⟨ns, ⟨a, n, vs, e, f, q, i⟩, z, zn⟩ := d
  obtain ⟨oL, es, ep, hL, _⟩ := F.ns
  refine ⟨a, n, vs, ns, e, F.after k, fun p hp => ?_, i, z, zn, fun p hp c => ?_⟩
  · rcases List.mem_cons.mp hp with rfl | hp
    · refine ⟨q, fun c => ?_, freshUp F.keep f⟩
      have c' : a = L := c
      rw [c', hL] at f
      exact nomatch f
    · exact newsStay N k p hp
  · have := (N p hp).1
    rw [c, f] at this
    cases this

theorem execs_cut {M : Model} {A : Around} {E : Value → Shared → Prop} {Q : Flow → Shared → Prop} {s : Shared} {st : Stmt} {rest : List Stmt} {env : Env} (Inv : Shared → Prop)
    (h1 : wpAny M A (exec st env) (fun f s' => f = .next ∧ Inv s') E s) (h2 : ∀ s', Inv s' → wpAny M A (execs rest env) Q E s') : wpAny M A (execs (st :: rest) env) Q E s := by
  refine wpAny_execs_cons (wpAny_mono h1 (fun f s' x => ?_) fun _ _ x => x)
  obtain ⟨rfl, hi⟩ := x
  exact h2 s' hi

def Stop (P : Prop) : Prop := P
theorem stop_of {P : Prop} (h : Stop P) : P := h

theorem frOf {h₀ h : Heap} {L : Addr} {m : Str → Option Value} (ps : List (Str × Value)) (F : Fr h₀ L h m) (e : ∀ p ∈ ps, m p.1 = some p.2) : Fr h₀ L h (kstB m ps) := by
  have em : kstB m ps = m := funext fun y => kstB_eq e fun _ => rfl
  rw [em]; exact F

section
variable {prog : Program} {w : World} {A : Around} {E : Value → Shared → Prop} {s : Shared} {g : Heap} {L : Addr} {m : Str → Option Value} {news : List (Addr × Obj)} {f : Addr} {vals : List Value} {Q : Value → Shared → Prop}
/-- a pure call that hands back a list of limbs -/
theorem callD {B x : Int} (c : CallR prog w A f vals s (fun r h' => FreshD s.heap h' r B x)) (F : Fr g L s.heap m) (N : News g L s.heap news)
    (h : ∀ a n vs ns h' tk', Fr g L h' m → News g L h' ((a, listOf vs.toArray n) :: news) → IntsAre vs ns → Dg B x ns → ns.length ≤ 300 → (∀ p ∈ news, p.1 ≠ a) → Q (.ref a) { s with heap := h', toks := tk' }) :
    wpAny (model prog w) A (call (.ref f) vals) Q E s := by
  refine wpAny_call (c _ fun r h' tk' hst hpost => ?_)
  obtain ⟨a, n, vs, ns, rfl, F', N', i, d, l, ne⟩ := joinD F N hst hpost
  exact h a n vs ns h' tk' F' N' i d l ne
/-- a pure call that hands back an int -/
theorem callI {v : Int} (c : CallR prog w A f vals s (fun r _ => ∃ t, r = .int v t)) (F : Fr g L s.heap m) (N : News g L s.heap news)
    (h : ∀ t h' tk', Fr g L h' m → News g L h' news → Q (.int v t) { s with heap := h', toks := tk' }) :
    wpAny (model prog w) A (call (.ref f) vals) Q E s := by
  refine wpAny_call (c _ fun r h' tk' hst hpost => ?_)
  obtain ⟨t, rfl⟩ := hpost
  exact h t h' tk' (F.after hst) (newsStay N hst)
end

end Mine
end
section
open PySem PySem.W PyProof.Rows PySem.Calls
namespace Mine

theorem normal_spec {prog : Program} {w : World} {dp un : Nat} {fr : Option (List Env)} {gd : Option (List Code)} {s : Shared} {p : Program} {loose : List Str} {mean : ExcName → Option Value} {mg mb : Str → Option Value}
   {va : Value} {B x : Int}
   (hdp : dp < 900) (X : (hd.heap_39 w.params).In s.heap) (T : Top p loose mean mg mb s.heap) (hA : DL s.heap va B x) :
   CallR prog w (AR dp un fr gd) 46 [va] s (fun r h' => FreshD s.heap h' r B x) := by
  intro R hR
  obtain ⟨ra, vs, ns, rfl, hl, hi, hx, hv, hn⟩ := hA
  refine' enter [(Str.ofString "a", .ref ra)] X T ?k6 ?k7 ?k8 ?k9 ?kB ?_ ?c2 ?c3 ?c4 ?c5
  case k6 => k_is
  case k7 => k_is
  case k8 => (show dp < 1000); omega
  case k9 => exact BindsTo.of_eq rfl
  case kB => exact locs rfl
  case c2 => exact rfl
  case c3 => exact rfl
  case c4 => exact rfl
  case c5 => decide
  intro L h₁ tk F N
  k_fold
  k_with_none
  k_steps
  rename Fr _ _ _ _ => F'
  rename News _ _ _ _ => N'
  rename IntsAre _ (List.take _ _) => hI
  rename (_ ≤ (ns.length : Int)) => h1
  rename (min _ _ ≤ _) => h2
  with_reducible rename (∀ _ : Int, _ < _ → _) => h3
  rename (_ = false) => h4
  rename Int => k
  have fin : Dg B x (ns.take k.toNat) := by
    rw [← hv]
    refine normal_math hx k.toNat (by omega) (fun j hj hj2 => ?_) ?_
    · have := h3 (j : Int) (by omega) (by omega)
      rw [if_pos (by omega), show ((j : Int) - 1).toNat = j - 1 by omega] at this
      split at this
      · rename_i e; exact eq_of_beq e
      · cases this
    · by_cases hk : 0 < k
      · right
        rw [if_pos hk, show (k - 1).toNat = k.toNat - 1 by omega] at h4
        intro e
        rw [e] at h4
        simp at h4
      · left; omega
  exact hR _ _ _ F'.keep (freshD_of N' (by k_mem) hI fin (by simp; omega))
end Mine
end
section
open PySem PySem.W PyProof.Rows PySem.Calls
namespace Mine

theorem compare_spec {prog : Program} {w : World} {dp un : Nat} {fr : Option (List Env)} {gd : Option (List Code)} {s : Shared} {p : Program} {loose : List Str} {mean : ExcName → Option Value} {mg mb : Str → Option Value}
   {va vb : Value} {B x y : Int}
   (hdp : dp < 900) (X : (hd.heap_39 w.params).In s.heap) (T : Top p loose mean mg mb s.heap) (hA : LD s.heap va B x) (hBB : LD s.heap vb B y) (hB : 1 ≤ B) :
   CallR prog w (AR dp un fr gd) 53 [va, vb] s (fun r _ => ∃ t, r = .int (cmpI x y) t) := by
  intro R hR
  obtain ⟨ra, vs, ns, rfl, hl, hi, hx, hn⟩ := hA
  obtain ⟨rb, us, ms, rfl, hl2, hi2, hy, hn2⟩ := hBB
  refine' enter [(Str.ofString "a", .ref ra), (Str.ofString "b", .ref rb)] X T ?k6 ?k7 ?k8 ?k9 ?kB ?_ ?c2 ?c3 ?c4 ?c5
  case k6 => k_is
  case k7 => k_is
  case k8 => (show dp < 1000); omega
  case k9 => exact BindsTo.of_eq rfl
  case kB => exact locs rfl
  case c2 => exact rfl
  case c3 => exact rfl
  case c4 => exact rfl
  case c5 => decide
  intro L h₁ tk F N
  k_fold
  k_with_none
  k_with "pyIter ref" => refine stop_of ?_
  k_steps
  · rename_i hlt
    exact hR _ _ _ F.keep ⟨_, by rw [cmpI_lt (hx.lt_of_len hB hy (by omega))]⟩
  · rename_i h1 _ h2
    exact hR _ _ _ F.keep ⟨_, by rw [cmpI_gt (hy.lt_of_len hB hx (by omega))]⟩
  show wpAny _ _ _ _ _ _
  with_unfolding_all refine' kst_rangeD (fun _ : Unit => []) (fun _ => []) (fun _ => True) [] (fun pre _ => ∀ j : Nat, ns.length ≤ j + pre.length → j < ns.length → ns.getD j 0 = ms.getD j 0) () (by rfl) (by assumption) (small_down (by omega) (by omega) (by omega) (by omega)) (rangeSize_downNat _ _) (by assumption) ?kn trivial ?kk ?kp ?turn ?done
  case kn => exact News.nil
  case kk => exact fun _ h => nomatch h
  case kp => intro j h1 h2; simp at h1; omega
  case done =>
    intro _ u h tk' _ hinv F N
    try dsimp only [kstB] at F
    try dsimp only
    k_steps
    have e : ns = ms := all_eq (by omega) fun j hj => hinv j (by rw [downKs_length]; omega) hj
    have e2 : x = y := by rw [← hx.val, ← hy.val, e]
    exact hR _ _ _ F.keep ⟨_, by rw [cmpI_eq e2]⟩
  case turn =>
    intro _ pre k t u h tk' own hk hlt hoff _ hinv F N
    try dsimp only [kstB] at F
    k_fold
    k_steps
    · rename_i hc
      have := cmp_math hB hx.dig hy.dig (by omega) k.toNat (by omega) (fun j h1 h2 => hinv j (by omega) h2) hc
      rw [hx.val, hy.val] at this
      exact hR _ _ _ F.keep ⟨_, by rw [cmpI_lt this]⟩
    · rename_i hne _ _ hc
      have := cmp_math hB hy.dig hx.dig (by omega) k.toNat (by omega) (fun j h1 h2 => (hinv j (by omega) (by omega)).symm) (by omega)
      rw [hx.val, hy.val] at this
      exact hR _ _ _ F.keep ⟨_, by rw [cmpI_gt this]⟩
    · rename_i hc
      refine kst_end () F N (fun _ h => nomatch h) (fun p hp => by simpa using hp) rfl trivial (fun _ h => nomatch h) (fun z h1 _ _ => by simp [h1]) ?_
      intro j h1 h2
      simp only [List.length_append, List.length_cons, List.length_nil] at h1
      by_cases h3 : ns.length ≤ j + pre.length
      · exact hinv j h3 h2
      · have : j = k.toNat := by omega
        rw [this]; exact hc
end Mine
end
section
open PySem PySem.W PyProof.Rows PySem.Calls
namespace Mine

theorem add_turn {B wv : Int} (hB2 : 2 ≤ B) (hB : B = 2 ^ wv.toNat) {ns ms pre f : List Int} {k c : Int} (hk : k = 0 + (pre.length : Int)) (hf : f.length = pre.length) (h : AddI B ns ms pre.length c f) (hn : Dig B ns) (hm : Dig B ms) :
    (f ++ [Builtin.bitAnd (c + (ns.getD k.toNat 0 + ms.getD k.toNat 0)) (1 * 2 ^ wv.toNat - 1)]).length = (pre ++ [k]).length ∧
      AddI B ns ms (pre ++ [k]).length ((c + (ns.getD k.toNat 0 + ms.getD k.toNat 0)).fdiv (2 ^ wv.toNat)) (f ++ [Builtin.bitAnd (c + (ns.getD k.toNat 0 + ms.getD k.toNat 0)) (1 * 2 ^ wv.toNat - 1)]) := by
  refine ⟨by simp [hf], ?_⟩
  have e : k.toNat = pre.length := by omega
  rw [List.length_append, e, Int.one_mul, kbt_mask, ← hB, Int.fdiv_eq_ediv_of_nonneg _ (by omega)]
  exact h.step hB2 hn hm rfl rfl rfl rfl
theorem add_turn2 {B wv : Int} (hB2 : 2 ≤ B) (hB : B = 2 ^ wv.toNat) {ns ms pre f : List Int} {k c : Int} (hk : k = (ms.length : Int) + (pre.length : Int)) (hf : f.length = ms.length + pre.length) (h : AddI B ns ms (ms.length + pre.length) c f) (hn : Dig B ns) (hm : Dig B ms) :
    (f ++ [Builtin.bitAnd (c + ns.getD k.toNat 0) (1 * 2 ^ wv.toNat - 1)]).length = ms.length + (pre ++ [k]).length ∧
      AddI B ns ms (ms.length + (pre ++ [k]).length) ((c + ns.getD k.toNat 0).fdiv (2 ^ wv.toNat)) (f ++ [Builtin.bitAnd (c + ns.getD k.toNat 0) (1 * 2 ^ wv.toNat - 1)]) := by
  refine ⟨by simp [hf]; omega, ?_⟩
  have e : k.toNat = ms.length + pre.length := by omega
  have z : ms.getD (ms.length + pre.length) 0 = 0 := by simp [List.getD_eq_getElem?_getD]
  rw [List.length_append, e, Int.one_mul, kbt_mask, ← hB, Int.fdiv_eq_ediv_of_nonneg _ (by omega)]
  exact h.step hB2 hn hm rfl rfl (by rw [z, Int.add_zero]) (by rw [z, Int.add_zero])

theorem add_mid {B : Int} {ns ms f : List Int} {c : Int} (hf : f.length = (rangeKs 0 ((ms.length : Int) - 0).toNat).length) (h : AddI B ns ms (rangeKs 0 ((ms.length : Int) - 0).toNat).length c f) :
    f.length = ms.length + ([] : List Int).length ∧ AddI B ns ms (ms.length + ([] : List Int).length) c f := by
  have e : (rangeKs 0 ((ms.length : Int) - 0).toNat).length = ms.length := by rw [rangeKs_length]; omega
  rw [e] at hf h
  exact ⟨hf, h⟩
def AddInv (s : Shared) (L : Addr) (B x y : Int) (wv : Int) (tw : Tok) (s' : Shared) : Prop := ∃ h' tk ra rb vs us ns ms x' y', s' = { s with heap := h', toks := tk } ∧
  (∃ m, Fr s.heap L h' m ∧ ∀ p ∈ [(Str.ofString "b", Value.ref rb), (Str.ofString "a", .ref ra), (Str.ofString "w", .int wv tw)], m p.1 = some p.2) ∧ News s.heap L h' [] ∧
  s.heap.IsList ra vs.toArray ∧ IntsAre vs ns ∧ s.heap.IsList rb us.toArray ∧ IntsAre us ms ∧ Dg B x' ns ∧ Dg B y' ms ∧ ns.length ≤ 300 ∧ ms.length ≤ ns.length ∧ x' + y' = x + y

theorem add_spec {prog : Program} {w : World} {dp un : Nat} {fr : Option (List Env)} {gd : Option (List Code)} {s : Shared} {p : Program} {loose : List Str} {mean : ExcName → Option Value} {mg mb : Str → Option Value}
   {va vb : Value} {B x y wv : Int} {tw : Tok}
   (hdp : dp < 900) (X : (hd.heap_39 w.params).In s.heap) (T : Top p loose mean mg mb s.heap) (hA : LD s.heap va B x) (hBB : LD s.heap vb B y)
   (hw1 : 1 ≤ wv) (hw5 : wv ≤ 5) (hB : B = 2 ^ wv.toNat) (hB2 : 2 ≤ B) (hz : x + y < B ^ 200) :
   CallR prog w (AR dp un fr gd) 60 [va, vb, .int wv tw] s (fun r h' => FreshD s.heap h' r B (x + y)) := by
  intro R hR
  obtain ⟨ra, vs, ns, rfl, hl, hi, hx, hn⟩ := hA
  obtain ⟨rb, us, ms, rfl, hl2, hi2, hy, hn2⟩ := hBB
  refine' enter [(Str.ofString "a", .ref ra), (Str.ofString "b", .ref rb), (Str.ofString "w", .int wv tw)] X T ?k6 ?k7 ?k8 ?k9 ?kB ?_ ?c2 ?c3 ?c4 ?c5
  case k6 => k_is
  case k7 => k_is
  case k8 => (show dp < 1000); omega
  case k9 => exact BindsTo.of_eq rfl
  case kB => exact locs rfl
  case c2 => exact rfl
  case c3 => exact rfl
  case c4 => exact rfl
  case c5 => decide
  intro L h₁ tk F N
  refine execs_cut (AddInv s L B x y wv tw) ?_ ?_
  · k_fold
    k_steps
    · rename_i hlt _ _ _ F' N'
      exact ⟨_, _, rb, ra, us, vs, ms, ns, y, x, rfl, ⟨_, F', by kst_all⟩, (fun _ h => nomatch h), hl2, hi2, hl, hi, hy, hx, hn2, by omega, by omega⟩
    · rename_i hlt
      exact ⟨_, _, ra, rb, vs, us, ns, ms, x, y, rfl, ⟨_, F, by kst_all⟩, N, hl, hi, hl2, hi2, hx, hy, hn, by omega, rfl⟩
  · clear F N hl hi hl2 hi2 hx hn hy hn2
    rintro s' ⟨h', tk', ra, rb, vs, us, ns, ms, x', y', rfl, ⟨m, F, hm⟩, N, hl, hi, hl2, hi2, hx, hy, hn, hlen, hxy⟩
    replace F := frOf _ F hm
    dsimp only [kstB] at F
    show wpAny _ _ _ _ _ _
    k_fold
    k_with_none
    k_with "pyIter ref" => refine stop_of ?_
    k_with "state" => exact ⟨rfl, AddI.start⟩
    k_with "state" => exact add_turn hB2 hB (by assumption) (by assumption) (by assumption) hx.dig hy.dig
    k_steps
    show wpAny _ _ _ _ _ _
    k_state (fun pre carry found => found.length = pre.length ∧ AddI B ns ms pre.length carry found) "carry" "found"
    · k_steps
    k_steps
    show wpAny _ _ _ _ _ _
    k_with_none
    k_with "pyIter ref" => refine stop_of ?_
    k_with "state" => exact add_turn2 hB2 hB (by assumption) (by assumption) (by assumption) hx.dig hy.dig
    k_with "state" => exact add_mid (by assumption) (by assumption)
    k_state (fun pre carry found => found.length = ms.length + pre.length ∧ AddI B ns ms (ms.length + pre.length) carry found) "carry" "found"
    · k_steps
    have lenE : ms.length + (rangeKs (ms.length : Int) ((ns.length : Int) - (ms.length : Int)).toNat).length = ns.length := by rw [rangeKs_length]; omega
    rename AddI B ns ms _ _ _ => hA
    rw [lenE] at hA
    have fin := hA.finish hB2 hx hy hlen
    rw [hxy] at fin
    k_steps
    · rename (0 < _) => hc
      rename Fr _ _ _ _ => F'
      rename News _ _ _ _ => N'
      rw [if_pos hc] at fin
      rename IntsAre _ _ => hI
      exact hR _ _ _ F'.keep (freshD_of N' (by k_mem) (ints_push hI) fin (Nat.le_trans (fin.len_le hB2 hz) (by decide)))
    · rename (¬ 0 < _) => hc
      rename Fr _ _ _ _ => F'
      rename News _ _ _ _ => N'
      rw [if_neg hc] at fin
      rename IntsAre _ _ => hI
      exact hR _ _ _ F'.keep (freshD_of N' (by k_mem) hI fin (Nat.le_trans (fin.len_le hB2 hz) (by decide)))
end Mine
end
section
open PySem PySem.W PyProof.Rows PySem.Calls
namespace Mine

theorem sub_turnN {B wv : Int} (hB2 : 2 ≤ B) (hB : B = 2 ^ wv.toNat) {ns ms pre f : List Int} {k c b : Int} (hk : k = 0 + (pre.length : Int)) (hf : f.length = pre.length) (h : SubI B ns ms pre.length c f) (hn : Dig B ns) (hm : Dig B ms)
    (hb : b = ms.getD k.toNat 0) (hl : ns.getD k.toNat 0 - c - b < 0) :
    (f ++ [ns.getD k.toNat 0 - c - b + 1 * 2 ^ wv.toNat]).length = (pre ++ [k]).length ∧ SubI B ns ms (pre ++ [k]).length 1 (f ++ [ns.getD k.toNat 0 - c - b + 1 * 2 ^ wv.toNat]) := by
  have e : k.toNat = pre.length := by omega
  rw [e] at hb hl ⊢
  rw [Int.one_mul, ← hB]
  exact ⟨by simp [hf], by rw [List.length_append]; exact h.stepN hB2 hn hm rfl hb rfl hl⟩
theorem sub_turnP {B : Int} (hB2 : 2 ≤ B) {ns ms pre f : List Int} {k c b : Int} (hk : k = 0 + (pre.length : Int)) (hf : f.length = pre.length) (h : SubI B ns ms pre.length c f) (hn : Dig B ns) (hm : Dig B ms)
    (hb : b = ms.getD k.toNat 0) (hl : ¬ ns.getD k.toNat 0 - c - b < 0) :
    (f ++ [ns.getD k.toNat 0 - c - b]).length = (pre ++ [k]).length ∧ SubI B ns ms (pre ++ [k]).length 0 (f ++ [ns.getD k.toNat 0 - c - b]) := by
  have e : k.toNat = pre.length := by omega
  rw [e] at hb hl ⊢
  exact ⟨by simp [hf], by rw [List.length_append]; exact h.stepP hB2 hn hm rfl hb rfl hl⟩
theorem getD_out {ms : List Int} {k : Int} (h : ¬ k < (ms.length : Int)) : 0 = ms.getD k.toNat 0 := by
  have : ms.length ≤ k.toNat := by omega
  simp [List.getD_eq_getElem?_getD, List.getElem?_eq_none this]

theorem sub_spec {prog : Program} {w : World} {dp un : Nat} {fr : Option (List Env)} {gd : Option (List Code)} {s : Shared} {p : Program} {loose : List Str} {mean : ExcName → Option Value} {mg mb : Str → Option Value}
   {va vb : Value} {B x y wv : Int} {tw : Tok}
   (hdp : dp < 890) (X : (hd.heap_39 w.params).In s.heap) (T : Top p loose mean mg mb s.heap) (hA : LD s.heap va B x) (hBB : LD s.heap vb B y)
   (hw1 : 1 ≤ wv) (hw5 : wv ≤ 5) (hB : B = 2 ^ wv.toNat) (hB2 : 2 ≤ B) (hle : y ≤ x) :
   CallR prog w (AR dp un fr gd) 67 [va, vb, .int wv tw] s (fun r h' => FreshD s.heap h' r B (x - y)) := by
  intro R hR
  have hA' := hA
  have hBB' := hBB
  obtain ⟨ra, vs, ns, rfl, hl, hi, hx, hn⟩ := hA
  obtain ⟨rb, us, ms, rfl, hl2, hi2, hy, hn2⟩ := hBB
  refine' enter [(Str.ofString "a", .ref ra), (Str.ofString "b", .ref rb), (Str.ofString "w", .int wv tw)] X T ?k6 ?k7 ?k8 ?k9 ?kB ?_ ?c2 ?c3 ?c4 ?c5
  case k6 => k_is
  case k7 => k_is
  case k8 => (show dp < 1000); omega
  case k9 => exact BindsTo.of_eq rfl
  case kB => exact locs rfl
  case c2 => exact rfl
  case c3 => exact rfl
  case c4 => exact rfl
  case c5 => decide
  intro L h₁ tk F N
  k_fold
  k_with_none
  k_with "pyIter ref" => refine stop_of ?_
  k_with "call ref" => refine stop_of ?_
  k_steps
  show wpAny _ _ _ _ _ _
  refine wpAny_call (compare_spec (by show dp + 1 < 900; omega) (X.keeps F.keep) (T.keeps F.keep) (hA'.keeps F.keep) (hBB'.keeps F.keep) (by omega) _ fun r h' tk' hst hpost => ?_)
  obtain ⟨t, rfl⟩ := hpost
  have hcm : ¬ cmpI x y < 0 := by unfold cmpI; split <;> (try split) <;> omega
  generalize cmpI x y = cc at *
  replace F := F.after hst
  replace N := newsStay N hst
  dsimp only
  k_steps
  show wpAny _ _ _ _ _ _
  k_with "state" => exact ⟨rfl, SubI.start⟩
  k_with "state" => exact sub_turnN hB2 hB (by assumption) (by assumption) (by assumption) hx.dig hy.dig rfl (by assumption)
  k_with "state" => exact sub_turnP hB2 (by assumption) (by assumption) (by assumption) hx.dig hy.dig rfl (by assumption)
  k_with "state" => exact sub_turnN hB2 hB (by assumption) (by assumption) (by assumption) hx.dig hy.dig (getD_out (by assumption)) (by assumption)
  k_with "state" => exact sub_turnP hB2 (by assumption) (by assumption) (by assumption) hx.dig hy.dig (getD_out (by assumption)) (by assumption)
  k_state (fun pre borrow found => found.length = pre.length ∧ SubI B ns ms pre.length borrow found) "borrow" "found"
  · k_steps
  have lenE : (rangeKs (0 : Int) ((ns.length : Int) - 0).toNat).length = ns.length := by rw [rangeKs_length]; omega
  rename SubI B ns ms _ _ _ => hS
  rw [lenE] at hS
  have fin := hS.finish hB2 hx hy hle
  k_steps
  show wpAny _ _ _ _ _ _
  rename Fr _ _ _ _ => F'
  rename News _ _ _ _ => N'
  rename IntsAre _ _ => hI
  refine wpAny_call (normal_spec (by show dp + 1 < 900; omega) (X.keeps F'.keep) (T.keeps F'.keep) (dlNews N' (by k_mem) hI fin.1 fin.2.1 (by omega)) _ fun r h' tk' hst hpost => ?_)
  dsimp only
  exact hR _ _ _ (fun b o e => hst _ _ (F'.keep _ _ e)) (hpost.lift F'.keep)
end Mine
end
section
open PySem PySem.W PyProof.Rows PySem.Calls
namespace Mine

theorem addat_spec {prog : Program} {w : World} {dp un : Nat} {fr : Option (List Env)} {gd : Option (List Code)} {s : Shared} {p : Program} {loose : List Str} {mean : ExcName → Option Value} {mg mb : Str → Option Value}
   {va vb : Value} {B x y wv sp : Int} {tw ts : Tok}
   (hdp : dp < 890) (X : (hd.heap_39 w.params).In s.heap) (T : Top p loose mean mg mb s.heap) (hA : LD s.heap va B x) (hBB : LD s.heap vb B y)
   (hw1 : 1 ≤ wv) (hw5 : wv ≤ 5) (hB : B = 2 ^ wv.toNat) (hB2 : 2 ≤ B) (hs0 : 0 ≤ sp) (hs1 : sp ≤ 100) (hz : x + B ^ sp.toNat * y < B ^ 200) :
   CallR prog w (AR dp un fr gd) 74 [va, vb, .int sp ts, .int wv tw] s (fun r h' => FreshD s.heap h' r B (x + B ^ sp.toNat * y)) := by
  intro R hR
  have hA' := hA
  have hBB' := hBB
  obtain ⟨ra, vs, ns, rfl, hl, hi, hx, hn⟩ := hA
  obtain ⟨rb, us, ms, rfl, hl2, hi2, hy, hn2⟩ := hBB
  refine' enter [(Str.ofString "a", .ref ra), (Str.ofString "b", .ref rb), (Str.ofString "spot", .int sp ts), (Str.ofString "w", .int wv tw)] X T ?k6 ?k7 ?k8 ?k9 ?kB ?_ ?c2 ?c3 ?c4 ?c5
  case k6 => k_is
  case k7 => k_is
  case k8 => (show dp < 1000); omega
  case k9 => exact BindsTo.of_eq rfl
  case kB => exact locs rfl
  case c2 => exact rfl
  case c3 => exact rfl
  case c4 => exact rfl
  case c5 => decide
  intro L h₁ tk F N
  k_fold
  k_with_none
  k_with "pyIter ref" => refine stop_of ?_
  k_with "call ref" => refine stop_of ?_
  k_steps
  · rename Fr _ _ _ _ => F'
    rename News _ _ _ _ => N'
    rename IntsAre _ _ => hI
    rename ((ms.length : Int) = 0) => hz
    have e : ms = [] := List.length_eq_zero_iff.mp (by omega)
    have y0 : y = 0 := by rw [e] at hy; exact hy.of_nil
    exact hR _ _ _ F'.keep (freshD_of N' (by k_mem) hI (hx.eqv (by rw [y0]; omega)) hn)
  · rename Fr _ _ _ _ => F'
    rename News _ _ _ _ => N'
    rename IntsAre _ (_ ++ _ ++ _) => hI
    rename ((ms.length : Int) ≠ 0) => hz1
    exact hR _ _ _ F'.keep (freshD_of N' (by k_mem) hI (addat_pad (by omega) hx hy (by intro e; rw [e] at hz1; simp at hz1) (by assumption)) (Nat.le_trans (Dg.len_le hB2 (addat_pad (by omega) hx hy (by intro e; rw [e] at hz1; simp at hz1) (by assumption)) hz) (by decide)))
  · show wpAny _ _ _ _ _ _
    rename Fr _ _ _ _ => F'
    rename News _ _ _ _ => N'
    rename IntsAre _ (List.drop _ _) => hI
    rename ((ms.length : Int) ≠ 0) => hz1
    rename (¬ (ns.length : Int) ≤ sp) => hs
    refine wpAny_call (add_spec (by show dp + 1 < 900; omega) (X.keeps F'.keep) (T.keeps F'.keep) (ldNews N' (by k_mem) hI (hx.drop (by omega) sp.toNat) (by simp; omega)) (hBB'.keeps F'.keep) hw1 hw5 hB hB2 (addat_lt (by omega) (hx.nonneg (by omega)) (hy.nonneg (by omega)) hz) _ fun r h' tk' hst hpost => ?_)
    have lr := hpost
    obtain ⟨a9, n9, vs9, rs, rfl, F', N', hi9, hr, hlr, hne⟩ := joinD F' N' hst hpost
    have fin := addat_mid (by omega) hs0 hx hy (by intro e; rw [e] at hz1; simp at hz1) hs hr
    dsimp only
    k_steps
    rename Fr _ _ _ _ => F'
    rename News _ _ _ _ => N'
    rename IntsAre _ (_ ++ _) => hI
    exact hR _ _ _ F'.keep (freshD_of N' (by k_mem) hI fin (Nat.le_trans (fin.len_le hB2 hz) (by decide)))
end Mine
end
section
open PySem PySem.W PyProof.Rows PySem.Calls
namespace Mine

abbrev tupOf (vs : List Value) : Obj := { cls := .type "tuple", data := .seq vs.toArray }
/-- a fresh pair -/
def FreshT (h h' : Heap) (r v1 v2 : Value) : Prop := ∃ a, r = .ref a ∧ h.get? a = none ∧ h'.get? a = some (tupOf [v1, v2])
theorem joinT {g h h' : Heap} {L : Addr} {m : Str → Option Value} {news : List (Addr × Obj)} {r v1 v2 : Value} (F : Fr g L h m) (N : News g L h' news) (k : h.StaysIn h') (d : FreshT h h' r v1 v2) :
    ∃ a, r = .ref a ∧ Fr g L h' m ∧ News g L h' ((a, tupOf [v1, v2]) :: news) := by
  obtain ⟨a, e, f, q⟩ := d
  obtain ⟨oL, es, ep, hL, _⟩ := F.ns
  refine ⟨a, e, F.after k, fun p hp => ?_⟩
  rcases List.mem_cons.mp hp with rfl | hp
  · refine ⟨q, fun c => ?_, freshUp F.keep f⟩
    have c' : a = L := c
    rw [c', hL] at f
    exact nomatch f
  · exact N p hp

theorem split_spec {prog : Program} {w : World} {dp un : Nat} {fr : Option (List Env)} {gd : Option (List Code)} {s : Shared} {p : Program} {loose : List Str} {mean : ExcName → Option Value} {mg mb : Str → Option Value}
   {va : Value} {B x sp : Int} {ts : Tok}
   (hdp : dp < 890) (X : (hd.heap_39 w.params).In s.heap) (T : Top p loose mean mg mb s.heap) (hA : LD s.heap va B x) (hB2 : 2 ≤ B) (hs0 : 0 ≤ sp) (hs1 : sp ≤ 100) :
   CallR prog w (AR dp un fr gd) 81 [va, .int sp ts] s (fun r h' => ∃ v1 v2, FreshT s.heap h' r v1 v2 ∧ FreshD s.heap h' v1 B (x % B ^ sp.toNat) ∧ FreshD s.heap h' v2 B (x / B ^ sp.toNat)) := by
  intro R hR
  have hA' := hA
  obtain ⟨ra, vs, ns, rfl, hl, hi, hx, hn⟩ := hA
  refine' enter [(Str.ofString "a", .ref ra), (Str.ofString "spot", .int sp ts)] X T ?k6 ?k7 ?k8 ?k9 ?kB ?_ ?c2 ?c3 ?c4 ?c5
  case k6 => k_is
  case k7 => k_is
  case k8 => (show dp < 1000); omega
  case k9 => exact BindsTo.of_eq rfl
  case kB => exact locs rfl
  case c2 => exact rfl
  case c3 => exact rfl
  case c4 => exact rfl
  case c5 => decide
  intro L h₁ tk F N
  k_fold
  k_with_none
  k_with "call ref" => refine stop_of ?_
  k_steps
  show wpAny _ _ _ _ _ _
  rename Fr _ _ _ _ => F'
  rename News _ _ _ _ => N'
  rename IntsAre _ (List.take _ _) => hI
  refine callD (normal_spec (by show dp + 1 < 900; omega) (X.keeps F'.keep) (T.keeps F'.keep) (dlNews N' (by k_mem) hI (hx.dig.take sp.toNat) (by rw [val_take (by omega) hx.dig, hx.val]) (by simp; omega))) F' N' fun a9 n9 vs9 rs h' tk' F' N' hi9 hr hlr hne => ?_
  dsimp only
  k_steps
  rename Fr _ _ _ _ => F'
  rename News _ _ _ _ => N'
  rename IntsAre _ (List.drop _ _) => hI2
  exact hR _ _ _ F'.keep ⟨_, _, ⟨_, rfl, N'.fresh (by k_mem), N'.get (by k_mem)⟩, freshD_of N' (by k_mem) hi9 hr hlr, freshD_of N' (by k_mem) hI2 (hx.drop (by omega) sp.toNat) (by simp; omega)⟩

theorem piece_spec {prog : Program} {w : World} {dp un : Nat} {fr : Option (List Env)} {gd : Option (List Code)} {s : Shared} {p : Program} {loose : List Str} {mean : ExcName → Option Value} {mg mb : Str → Option Value}
   {va : Value} {B x i j : Int} {ti tj : Tok}
   (hdp : dp < 890) (X : (hd.heap_39 w.params).In s.heap) (T : Top p loose mean mg mb s.heap) (hA : LD s.heap va B x) (hB2 : 2 ≤ B) (hi0 : 0 ≤ i) (hij : i ≤ j) (hj1 : j ≤ 100) :
   CallR prog w (AR dp un fr gd) 88 [va, .int i ti, .int j tj] s (fun r h' => FreshD s.heap h' r B (x / B ^ i.toNat % B ^ (j - i).toNat)) := by
  intro R hR
  have hA' := hA
  obtain ⟨ra, vs, ns, rfl, hl, hi, hx, hn⟩ := hA
  refine' enter [(Str.ofString "a", .ref ra), (Str.ofString "begin", .int i ti), (Str.ofString "end", .int j tj)] X T ?k6 ?k7 ?k8 ?k9 ?kB ?_ ?c2 ?c3 ?c4 ?c5
  case k6 => k_is
  case k7 => k_is
  case k8 => (show dp < 1000); omega
  case k9 => exact BindsTo.of_eq rfl
  case kB => exact locs rfl
  case c2 => exact rfl
  case c3 => exact rfl
  case c4 => exact rfl
  case c5 => decide
  intro L h₁ tk F N
  k_fold
  k_with_none
  k_with "call ref" => refine stop_of ?_
  k_steps
  show wpAny _ _ _ _ _ _
  rename Fr _ _ _ _ => F'
  rename News _ _ _ _ => N'
  rename IntsAre _ (List.take _ _) => hI
  have e : (ns.drop i.toNat).take (min j.toNat ns.length - i.toNat) = (ns.drop i.toNat).take (j - i).toNat := by
    rcases Nat.le_total j.toNat ns.length with q | q
    · rw [Nat.min_eq_left q, show (j - i).toNat = j.toNat - i.toNat by omega]
    · rw [List.take_of_length_le (by simp; omega), List.take_of_length_le (by simp; omega)]
  rw [e] at hI
  refine wpAny_call (normal_spec (by show dp + 1 < 900; omega) (X.keeps F'.keep) (T.keeps F'.keep) (dlNews N' (by k_mem) hI ((hx.dig.drop _).take _) (by rw [val_take (by omega) (hx.dig.drop _), val_drop (by omega) hx.dig, hx.val]) (by simp; omega)) _ fun r h' tk' hst hpost => ?_)
  exact hR _ _ _ (fun b o e => hst _ _ (F'.keep _ _ e)) (hpost.lift F'.keep)
end Mine
end
section
open PySem PySem.W PyProof.Rows PySem.Calls
namespace Mine

theorem diff_spec {prog : Program} {w : World} {dp un : Nat} {fr : Option (List Env)} {gd : Option (List Code)} {s : Shared} {p : Program} {loose : List Str} {mean : ExcName → Option Value} {mg mb : Str → Option Value}
   {va vb : Value} {B x y wv : Int} {tw : Tok}
   (hdp : dp < 880) (X : (hd.heap_39 w.params).In s.heap) (T : Top p loose mean mg mb s.heap) (hA : LD s.heap va B x) (hBB : LD s.heap vb B y)
   (hw1 : 1 ≤ wv) (hw5 : wv ≤ 5) (hB : B = 2 ^ wv.toNat) (hB2 : 2 ≤ B) :
   CallR prog w (AR dp un fr gd) 95 [va, vb, .int wv tw] s (fun r h' => ∃ v2, FreshT s.heap h' r (.bool (decide (x < y))) v2 ∧ FreshD s.heap h' v2 B ((x - y).natAbs : Int)) := by
  intro R hR
  have hA' := hA
  have hBB' := hBB
  obtain ⟨ra, vs, ns, rfl, hl, hi, hx, hn⟩ := hA
  obtain ⟨rb, us, ms, rfl, hl2, hi2, hy, hn2⟩ := hBB
  refine' enter [(Str.ofString "a", .ref ra), (Str.ofString "b", .ref rb), (Str.ofString "w", .int wv tw)] X T ?k6 ?k7 ?k8 ?k9 ?kB ?_ ?c2 ?c3 ?c4 ?c5
  case k6 => k_is
  case k7 => k_is
  case k8 => (show dp < 1000); omega
  case k9 => exact BindsTo.of_eq rfl
  case kB => exact locs rfl
  case c2 => exact rfl
  case c3 => exact rfl
  case c4 => exact rfl
  case c5 => decide
  intro L h₁ tk F N
  k_fold
  k_with_none
  k_with "call ref" => refine stop_of ?_
  k_steps
  show wpAny _ _ _ _ _ _
  refine callI (compare_spec (by show dp + 1 < 900; omega) (X.keeps F.keep) (T.keeps F.keep) (hA'.keeps F.keep) (hBB'.keeps F.keep) (by omega)) F N fun t h' tk' F N => ?_
  dsimp only
  by_cases hlt : x < y
  · have hc := cmpI_lt hlt
    rw [hc]
    k_steps
    show wpAny _ _ _ _ _ _
    rename Fr _ _ _ _ => F'
    rename News _ _ _ _ => N'
    refine callD (sub_spec (by show dp + 1 < 890; omega) (X.keeps F'.keep) (T.keeps F'.keep) (hBB'.keeps F'.keep) (hA'.keeps F'.keep) hw1 hw5 hB hB2 (by omega)) F' N' fun a9 n9 vs9 rs h' tk' F' N' hi9 hr hlr hne => ?_
    dsimp only
    k_steps
    rename Fr _ _ _ _ => F'
    rename News _ _ _ _ => N'
    exact hR _ _ _ F'.keep ⟨_, ⟨_, rfl, N'.fresh (by k_mem), by rw [decide_eq_true hlt]; exact N'.get (by k_mem)⟩, freshD_of N' (by k_mem) hi9 (hr.eqv (by omega)) hlr⟩
  · have hc : ¬ cmpI x y < 0 := by unfold cmpI; split <;> (try split) <;> omega
    generalize cmpI x y = cc at *
    k_steps
    show wpAny _ _ _ _ _ _
    rename Fr _ _ _ _ => F'
    rename News _ _ _ _ => N'
    refine callD (sub_spec (by show dp + 1 < 890; omega) (X.keeps F'.keep) (T.keeps F'.keep) (hA'.keeps F'.keep) (hBB'.keeps F'.keep) hw1 hw5 hB hB2 (by omega)) F' N' fun a9 n9 vs9 rs h' tk' F' N' hi9 hr hlr hne => ?_
    dsimp only
    k_steps
    rename Fr _ _ _ _ => F'
    rename News _ _ _ _ => N'
    exact hR _ _ _ F'.keep ⟨_, ⟨_, rfl, N'.fresh (by k_mem), by rw [decide_eq_false hlt]; exact N'.get (by k_mem)⟩, freshD_of N' (by k_mem) hi9 (hr.eqv (by omega)) hlr⟩

theorem mid_spec {prog : Program} {w : World} {dp un : Nat} {fr : Option (List Env)} {gd : Option (List Code)} {s : Shared} {p : Program} {loose : List Str} {mean : ExcName → Option Value} {mg mb : Str → Option Value}
   {va vb vc : Value} {B x y z wv : Int} {tw : Tok} {b : Bool}
   (hdp : dp < 880) (X : (hd.heap_39 w.params).In s.heap) (T : Top p loose mean mg mb s.heap) (hA : LD s.heap va B x) (hBB : LD s.heap vb B y) (hCC : LD s.heap vc B z)
   (hw1 : 1 ≤ wv) (hw5 : wv ≤ 5) (hB : B = 2 ^ wv.toNat) (hB2 : 2 ≤ B) (hle : b = false → z ≤ x + y) (hz : x + y + z < B ^ 200) :
   CallR prog w (AR dp un fr gd) 109 [va, vb, .bool b, vc, .int wv tw] s (fun r h' => FreshD s.heap h' r B (if b then x + y + z else x + y - z)) := by
  intro R hR
  have hA' := hA
  have hBB' := hBB
  have hCC' := hCC
  obtain ⟨ra, vs, ns, rfl, hl, hi, hx, hn⟩ := hA
  obtain ⟨rb, us, ms, rfl, hl2, hi2, hy, hn2⟩ := hBB
  obtain ⟨rc, vs3, ls, rfl, hl3, hi3, hz3, hn3⟩ := hCC
  refine' enter [(Str.ofString "low", .ref ra), (Str.ofString "high", .ref rb), (Str.ofString "is_below", .bool b), (Str.ofString "apart", .ref rc), (Str.ofString "w", .int wv tw)] X T ?k6 ?k7 ?k8 ?k9 ?kB ?_ ?c2 ?c3 ?c4 ?c5
  case k6 => k_is
  case k7 => k_is
  case k8 => (show dp < 1000); omega
  case k9 => exact BindsTo.of_eq rfl
  case kB => exact locs rfl
  case c2 => exact rfl
  case c3 => exact rfl
  case c4 => exact rfl
  case c5 => decide
  intro L h₁ tk F N
  k_fold
  k_with_none
  k_with "call ref" => refine stop_of ?_
  k_steps
  show wpAny _ _ _ _ _ _
  have z0 := hz3.nonneg (show 1 ≤ B by omega)
  refine callD (add_spec (by show dp + 1 < 900; omega) (X.keeps F.keep) (T.keeps F.keep) (hA'.keeps F.keep) (hBB'.keeps F.keep) hw1 hw5 hB hB2 (by omega)) F N fun a9 n9 vs9 rs h' tk' F' N' hi9 hr hlr hne => ?_
  clear F N
  dsimp only
  cases b with
  | true =>
    k_steps
    show wpAny _ _ _ _ _ _
    rename Fr _ _ _ _ => F'
    rename News _ _ _ _ => N'
    refine wpAny_call (add_spec (by show dp + 1 < 900; omega) (X.keeps F'.keep) (T.keeps F'.keep) (ldNews N' (by k_mem) hi9 hr hlr) (hCC'.keeps F'.keep) hw1 hw5 hB hB2 (by omega) _ fun r h' tk' hst hpost => ?_)
    exact hR _ _ _ (fun b o e => hst _ _ (F'.keep _ _ e)) (hpost.lift F'.keep)
  | false =>
    k_steps
    show wpAny _ _ _ _ _ _
    rename Fr _ _ _ _ => F'
    rename News _ _ _ _ => N'
    refine wpAny_call (sub_spec (by show dp + 1 < 890; omega) (X.keeps F'.keep) (T.keeps F'.keep) (ldNews N' (by k_mem) hi9 hr hlr) (hCC'.keeps F'.keep) hw1 hw5 hB hB2 (hle rfl) _ fun r h' tk' hst hpost => ?_)
    exact hR _ _ _ (fun b o e => hst _ _ (F'.keep _ _ e)) (hpost.lift F'.keep)

theorem put_spec {prog : Program} {w : World} {dp un : Nat} {fr : Option (List Env)} {gd : Option (List Code)} {s : Shared} {p : Program} {loose : List Str} {mean : ExcName → Option Value} {mg mb : Str → Option Value}
   {va vb vc : Value} {B x y z sp wv : Int} {ts tw : Tok}
   (hdp : dp < 880) (X : (hd.heap_39 w.params).In s.heap) (T : Top p loose mean mg mb s.heap) (hA : LD s.heap va B x) (hBB : LD s.heap vb B y) (hCC : LD s.heap vc B z)
   (hw1 : 1 ≤ wv) (hw5 : wv ≤ 5) (hB : B = 2 ^ wv.toNat) (hB2 : 2 ≤ B) (hs0 : 0 ≤ sp) (hs1 : sp ≤ 50) (hz : x + B ^ sp.toNat * y + B ^ (2 * sp).toNat * z < B ^ 200) :
   CallR prog w (AR dp un fr gd) 102 [va, vb, vc, .int sp ts, .int wv tw] s (fun r h' => FreshD s.heap h' r B (x + B ^ sp.toNat * y + B ^ (2 * sp).toNat * z)) := by
  intro R hR
  have hA' := hA
  have hBB' := hBB
  have hCC' := hCC
  obtain ⟨ra, vs, ns, rfl, hl, hi, hx, hn⟩ := hA
  obtain ⟨rb, us, ms, rfl, hl2, hi2, hy, hn2⟩ := hBB
  obtain ⟨rc, vs3, ls, rfl, hl3, hi3, hz3, hn3⟩ := hCC
  refine' enter [(Str.ofString "low", .ref ra), (Str.ofString "middle", .ref rb), (Str.ofString "high", .ref rc), (Str.ofString "spot", .int sp ts), (Str.ofString "w", .int wv tw)] X T ?k6 ?k7 ?k8 ?k9 ?kB ?_ ?c2 ?c3 ?c4 ?c5
  case k6 => k_is
  case k7 => k_is
  case k8 => (show dp < 1000); omega
  case k9 => exact BindsTo.of_eq rfl
  case kB => exact locs rfl
  case c2 => exact rfl
  case c3 => exact rfl
  case c4 => exact rfl
  case c5 => decide
  intro L h₁ tk F N
  k_fold
  k_with_none
  k_with "call ref" => refine stop_of ?_
  k_steps
  show wpAny _ _ _ _ _ _
  have z0 := hz3.nonneg (show 1 ≤ B by omega)
  have p0 := pow_pos' (show 1 ≤ B by omega) (2 * sp).toNat
  have m0 : 0 ≤ B ^ (2 * sp).toNat * z := Int.mul_nonneg (by omega) z0
  refine callD (addat_spec (by show dp + 1 < 890; omega) (X.keeps F.keep) (T.keeps F.keep) (hA'.keeps F.keep) (hBB'.keeps F.keep) hw1 hw5 hB hB2 hs0 (by omega) (by omega)) F N fun a9 n9 vs9 rs h' tk' F' N' hi9 hr hlr hne => ?_
  clear F N
  dsimp only
  k_steps
  show wpAny _ _ _ _ _ _
  refine wpAny_call (addat_spec (by show dp + 1 < 890; omega) (X.keeps F'.keep) (T.keeps F'.keep) (ldNews N' (by k_mem) hi9 hr hlr) (hCC'.keeps F'.keep) hw1 hw5 hB hB2 (by omega) (by omega) hz _ fun r h' tk' hst hpost => ?_)
  exact hR _ _ _ (fun b o e => hst _ _ (F'.keep _ _ e)) (hpost.lift F'.keep)
end Mine
end
section
open PySem PySem.W PyProof.Rows PySem.Calls
namespace Mine

abbrev Led := List (Addr × Obj)
def LogIn (h : Heap) (lg : Led) : Prop := ∀ p ∈ lg, h.get? p.1 = some p.2
def Off (lg : Led) (a : Addr) : Prop := ∀ p ∈ lg, p.1 ≠ a
def KeepOff (lg : Led) (h h' : Heap) : Prop := ∀ b o, Off lg b → h.get? b = some o → h'.get? b = some o
def Grown (lg lg' : Led) (h : Heap) : Prop := ∀ p ∈ lg', (∃ q ∈ lg, q.1 = p.1) ∨ h.get? p.1 = none
def Wider (lg lg' : Led) : Prop := ∀ q ∈ lg, ∃ p ∈ lg', p.1 = q.1
theorem Wider.refl (lg : Led) : Wider lg lg := fun q hq => ⟨q, hq, rfl⟩
theorem Wider.trans {a b c : Led} (x : Wider a b) (y : Wider b c) : Wider a c := fun q hq => let ⟨p, hp, e⟩ := x q hq; let ⟨r, hr, e'⟩ := y p hp; ⟨r, hr, e'.trans e⟩
theorem Wider.off {a b : Led} {c : Addr} (x : Wider a b) (o : Off b c) : Off a c := fun q hq e => let ⟨p, hp, e'⟩ := x q hq; o p hp (e'.trans e)
/-- a list of the limbs of x that is none of the log's objects -/
def LDo (h : Heap) (lg : Led) (v : Value) (B x : Int) : Prop := ∃ a vs ns, v = .ref a ∧ Off lg a ∧ h.IsList a vs.toArray ∧ IntsAre vs ns ∧ Dg B x ns ∧ ns.length ≤ 300
def FreshO (h h' : Heap) (lg' : Led) (r : Value) (B x : Int) : Prop := ∃ a n vs ns, r = .ref a ∧ h.get? a = none ∧ Off lg' a ∧ h'.get? a = some (listOf vs.toArray n) ∧ IntsAre vs ns ∧ Dg B x ns ∧ ns.length ≤ 300
def CallM (prog : Program) (w : World) (A : Around) (f : Addr) (vals : List Value) (s : Shared) (lg : Led) (Post : Value → Heap → Led → Prop) : Prop :=
  ∀ R : Result → Shared → Prop, (∀ r h' tk' lg', KeepOff lg s.heap h' → LogIn h' lg' → Grown lg lg' s.heap → Wider lg lg' → Post r h' lg' → R (.ok (.ret r)) { s with heap := h', toks := tk' }) → codeAny (model prog w) A (.call (.ref f) ⟨vals, []⟩) R s

theorem off_map {lg : Led} {a : Addr} (h : Off lg a) : a ∉ lg.map (·.1) := fun q => let ⟨p, hp, e⟩ := List.mem_map.mp q; h p hp e
theorem LDo.hide {h : Heap} {lg : Led} {v : Value} {B x : Int} (d : LDo h lg v B x) : LD (hideAll h (lg.map (·.1))) v B x :=
  let ⟨a, vs, ns, e, o, l, i, z⟩ := d
  ⟨a, vs, ns, e, l.at fun _ q => hideAll_get _ q (off_map o), i, z⟩
/-- what lies in the ground is none of the log's -/
theorem LD.off {g h : Heap} {L : Addr} {m : Str → Option Value} {lg : Led} {v : Value} {B x : Int} (d : LD g v B x) (F : Fr g L h m) (N : News g L h lg) : LDo h lg v B x := by
  obtain ⟨a, vs, ns, e, l, i, z⟩ := d
  obtain ⟨o, ho, r⟩ := id l
  refine ⟨a, vs, ns, e, fun p hp c => ?_, l.at fun _ q => F.keep _ _ q, i, z⟩
  have := (N p hp).2.2
  rw [c, ho] at this
  cases this
theorem ldoNews {g h : Heap} {L l : Addr} {news lg : Led} {items : Array Value} {n : Nat} {fs : List Int} {B x : Int} (N : News g L h news) (hm : (l, listOf items n) ∈ news) (ho : Off lg l) (hi : IntsAre items.toList fs) (hd : Dg B x fs) (hn : fs.length ≤ 300) :
    LDo h lg (.ref l) B x := ⟨l, items.toList, fs, rfl, ho, ⟨_, N.get hm, rfl, n, rfl⟩, hi, hd, hn⟩
theorem newsSub {g h : Heap} {L : Addr} {l l' : Led} (N : News g L h l) (hs : ∀ p ∈ l', p ∈ l) : News g L h l' := fun p hp => N p (hs p hp)
theorem logOf {g h : Heap} {L : Addr} {l lg : Led} (N : News g L h l) (hs : ∀ p ∈ lg, p ∈ l) : LogIn h lg := fun p hp => (N p (hs p hp)).1

/-- behind a call that turns the log -/
theorem joinM {g h h' : Heap} {L : Addr} {m : Str → Option Value} {news lg lg' : Led} {r : Value} {B x : Int} (F : Fr g L h m) (N : News g L h (news ++ lg)) (ho : ∀ p ∈ news, Off lg p.1)
    (k : KeepOff lg h h') (kl : LogIn h' lg') (kg : Grown lg lg' h) (d : FreshO h h' lg' r B x) :
    ∃ a n vs ns, r = .ref a ∧ Fr g L h' m ∧ News g L h' ((a, listOf vs.toArray n) :: (news ++ lg')) ∧ IntsAre vs ns ∧ Dg B x ns ∧ ns.length ≤ 300 ∧ Off lg' a ∧ (∀ p ∈ news, p.1 ≠ a) ∧ ∀ p ∈ news, Off lg' p.1 := by
  obtain ⟨a, n, vs, ns, e, f, oa, q, i, z, zn⟩ := d
  have offL : Off lg L := fun p hp => (N p (List.mem_append_right _ hp)).2.1
  have offg : ∀ b o, g.get? b = some o → Off lg b := fun b o e p hp c => by
    have := (N p (List.mem_append_right _ hp)).2.2
    rw [c, e] at this; cases this
  obtain ⟨oL, es, ep, hL, hLd, hLk, hLf⟩ := F.ns
  have F' : Fr g L h' m := ⟨⟨oL, es, ep, k _ _ offL hL, hLd, hLk, hLf⟩, fun b o e => k b o (offg b o e) (F.keep b o e), F.above⟩
  have fr : ∀ b, h.get? b = none → b ≠ L ∧ g.get? b = none := fun b e => by
    refine ⟨fun c => ?_, freshUp F.keep e⟩
    rw [c, hL] at e
    exact nomatch e
  refine ⟨a, n, vs, ns, e, F', fun p hp => ?_, i, z, zn, oa, fun p hp c => ?_, fun p hp q' hq' c => ?_⟩
  · rcases List.mem_cons.mp hp with rfl | hp
    · exact ⟨q, fr _ f⟩
    · rcases List.mem_append.mp hp with hp | hp
      · have n' := N p (List.mem_append_left _ hp)
        exact ⟨k _ _ (ho p hp) n'.1, n'.2⟩
      · refine ⟨kl p hp, ?_⟩
        rcases kg p hp with ⟨q', hq', e'⟩ | e'
        · rw [← e']; exact (N q' (List.mem_append_right _ hq')).2
        · exact fr _ e'
  · have := (N p (List.mem_append_left _ hp)).1
    rw [c, f] at this; cases this
  · have n' := (N p (List.mem_append_left _ hp)).1
    rcases kg q' hq' with ⟨q₂, hq₂, e'⟩ | e'
    · exact ho p hp q₂ hq₂ (e'.trans c)
    · rw [c, n'] at e'; cases e'

theorem enterM {prog : Program} {w : World} {A : Around} {s : Shared} {K : Frag} {p : Program} {loose : List Str} {mean : ExcName → Option Value} {mg mb : Str → Option Value} {g : Heap} {lg : Led}
    {R : Result → Shared → Prop} {name qual : Str} {params : Arguments} {body : List Stmt} {scope : Scope} {dV kV doc pm cdv ct oc : Value} {an od : Option Addr} {osl : Array (Option Value)} {f : Addr} {args : Args} (binds : List (Str × Value))
    (X : K.In g) (T : Top p loose mean mg mb g) (hg : g.StaysIn s.heap) (hgl : ∀ p ∈ lg, g.get? p.1 = none) (hl : LogIn s.heap lg)
    (ho : K.lookup f = some ⟨oc, od, .func (fnOf name qual params body scope dV kV doc pm an cdv ct), osl⟩) (hcd : codeIn K cdv qual = true) (hroom : A.depth < recursionLimit)
    (hbind : BindsTo s (fnOf name qual params body scope dV kV doc pm an cdv ct) args binds) (hloc : ∀ y ∈ binds, scope.names.lookup y.1 = some .local)
    (h : ∀ L' h₁ tk' h0, h0 = hideAll s.heap (lg.map (·.1)) → g.StaysIn h0 → K.In h0 → Top p loose mean mg mb h0 → Fr h0 L' h₁ (fun y => binds.reverse.lookup y) → News h0 L' h₁ lg → s.heap.StaysIn h₁ → 
      wpAny (model prog w) (A.deeper (envOf qual scope L' f cdv)) (execs body (envOf qual scope L' f cdv))
        (fun fl s' => R (.ok (.ret (match fl with | .ret v => v | _ => .none))) s') (fun _ _ => False)
        { s with heap := h₁, toks := tk' })
    (hco : scope.isCoroutine = false) (hgen : scope.isGenerator = false) (hk : scope.kind = .function)
    (hcell : ∀ x ∈ scope.names, x.2 ≠ .cell) : codeAny (model prog w) A (.call (.ref f) args) R s := by
  have st : g.StaysIn (hideAll s.heap (lg.map (·.1))) := fun b o e => hideAll_get _ (hg b o e) fun q => by
    obtain ⟨p, hp, c⟩ := List.mem_map.mp q
    have := hgl p hp
    rw [c, e] at this; cases this
  refine codeAny_call_def (fd := fnOf name qual params body scope dV kV doc pm an cdv ct) (body := body) (binds := binds) hroom (X.keeps hg _ _ ho) rfl (T.nolimit.keeps hg) (codeRec_of (X.keeps hg) hcd) rfl hbind hcell hloc (fun h₁ hns hk₁ => ?_) hco hgen hk
  refine wpAny_mono (h s.heap.objs.size h₁ _ _ rfl st (X.keeps st) (T.keeps st) ⟨hns, fun b o e => hk₁ b o (of_hideAll _ e), Nat.le_of_eq (hideAll_size _ _)⟩ (fun p hp => ?_) hk₁) (fun _ _ x => x) fun _ _ x => x.elim
  exact ⟨hk₁ _ _ (hl p hp), Nat.ne_of_lt (Heap.lt_size (hl p hp)), hideAll_none _ (List.mem_map_of_mem hp)⟩

/-- at a return: the log's keeper out of the frame's -/
theorem keepOff_of {lg : Led} {h h0 h' : Heap} {L : Addr} {m : Str → Option Value} (e : h0 = hideAll h (lg.map (·.1))) (F : Fr h0 L h' m) : KeepOff lg h h' := fun b o ob q =>
  F.keep b o (by rw [e]; exact hideAll_get _ q (off_map ob))
theorem freshOut {lg : Led} {h h0 : Heap} {a : Addr} (e : h0 = hideAll h (lg.map (·.1))) (o : Off lg a) (f : h0.get? a = none) : h.get? a = none := by
  cases q : h.get? a with
  | none => rfl
  | some ob => rw [e, hideAll_get _ q (off_map o)] at f; cases f
theorem grown_of {lg lg' news : Led} {h h0 h' : Heap} {L : Addr} (e : h0 = hideAll h (lg.map (·.1))) (N : News h0 L h' news) (hs : ∀ p ∈ lg', p ∈ news) : Grown lg lg' h := fun p hp => by
  by_cases o : Off lg p.1
  · exact .inr (freshOut e o (N p (hs p hp)).2.2)
  · left
    apply Classical.byContradiction
    intro hn
    exact o fun q hq c => hn ⟨q, hq, c⟩
/-- a pure call's list at a return of a def that turns the log -/
theorem retM {lg lg' news : Led} {h h0 h1 h' : Heap} {L : Addr} {m : Str → Option Value} {r : Value} {B x : Int} (e : h0 = hideAll h (lg.map (·.1))) (F : Fr h0 L h1 m) (N : News h0 L h1 news) (hs : ∀ p ∈ lg', p ∈ news) (wd : Wider lg lg')
    (k : h1.StaysIn h') (d : FreshD h1 h' r B x) : KeepOff lg h h' ∧ LogIn h' lg' ∧ Grown lg lg' h ∧ FreshO h h' lg' r B x := by
  obtain ⟨ns, ⟨a, n, vs, e', f, q, i⟩, z, zn⟩ := d
  have oa : Off lg' a := fun p hp c => by
    have := (N p (hs p hp)).1
    rw [c, f] at this; cases this
  exact ⟨fun b o ob q => k _ _ (keepOff_of e F b o ob q), fun p hp => k _ _ (N p (hs p hp)).1, grown_of e N hs, a, n, vs, ns, e', freshOut e (wd.off oa) (freshUp F.keep f), oa, q, i, z, zn⟩
end Mine
namespace Mine
section
variable {prog : Program} {w : World} {A : Around} {E : Value → Shared → Prop} {s : Shared} {env : Env} {h₀ : Heap} {x : Str} {body : List Stmt} {Q : Flow → Shared → Prop}
def TurnPost (h₀ : Heap) (L : Addr) (s : Shared) (J' : (Str → Option Value) → Led → Prop) (I : Addr) (oI : Obj) (f : Flow) (s₂ : Shared) : Prop :=
  f = .next ∧ ∃ h' tk' m' news', s₂ = { s with heap := h', toks := tk' } ∧ Fr h₀ L h' m' ∧ News h₀ L h' ((I, oI) :: news') ∧ Off news' I ∧ J' m' news'
/-- a loop over a range of any step: whatever the turn makes of the frame and the ledger -/
theorem loopC {r : Addr} {a₀ b₀ c : Int} {t₀ u₀ v₀ : Tok} {n : Nat} {m₀ : Str → Option Value} {news : Led} (J : Nat → (Str → Option Value) → Led → Prop)
    (hh : A.handled = none) (hr : IsRange s.heap r a₀ b₀ c t₀ u₀ v₀) (hsmall : Builtin.Range.small a₀ b₀ c = true) (hn : Builtin.Range.rangeSize a₀ b₀ c = (n : Int)) (F : Fr h₀ env.locals s.heap m₀) (N : News h₀ env.locals s.heap news) (hj : J 0 m₀ news)
    (turn : ∀ i t m₁ news₁ I oI h tk, i < n → J i m₁ news₁ → Off news₁ I → Fr h₀ env.locals h (fun y => if y = x then some (.int (a₀ + (i : Int) * c) t) else m₁ y) → News h₀ env.locals h ((I, oI) :: news₁) →
      wpAny (model prog w) A (execs body env) (fun f s₂ => TurnPost h₀ env.locals s (J (i + 1)) I oI f s₂) E { s with heap := h, toks := tk })
    (done : ∀ m₁ news₁ h tk, J n m₁ news₁ → Fr h₀ env.locals h m₁ → News h₀ env.locals h news₁ → Q .next { s with heap := h, toks := tk }) :
    wpAny (model prog w) A (pyIter (.ref r)) (fun it s₂ => LoopAtV prog w A h₀ env x body Q E it s₂) E s := by
  refine wpAny_pyIter_range hr hsmall ?_
  have hnI : ∀ {led : Led}, Off led s.heap.objs.size ↔ ∀ p ∈ led, p.1 ∉ [s.heap.objs.size] := fun {led} =>
    ⟨fun h p hp q => h p hp (List.mem_singleton.mp q), fun h p hp e => h p hp (List.mem_singleton.mpr e)⟩
  have hoff : Off news s.heap.objs.size := fun p hp e => absurd (Heap.lt_size (N p hp).1) (e ▸ Nat.lt_irrefl _)
  refine ⟨s.heap.objs.size, _, _, n, _, _, m₀, news, fun i m nx => Off nx s.heap.objs.size ∧ J i m nx, rfl, Walks.range hh s.heap.objs.size a₀ c n, ?_, ?_, hnI.mp hoff, ?_, F.push _, fun p hp => ⟨Heap.get?_push_of_some _ (N p hp).1, (N p hp).2⟩, ⟨hoff, hj⟩, ?_, ?_⟩
  · intro hm
    exact absurd F.ns.lt ((List.mem_singleton.mp hm) ▸ Nat.lt_irrefl _)
  · intro b hb
    rw [List.mem_singleton.mp hb]
    exact next_is_new F
  · show IsRangeIter _ _ _ _ _
    rw [hn]; simpa using Heap.get?_push_size _ rfl
  · rintro i v m₁ news₁ s₁ own ⟨h, tk, rfl⟩ hi ⟨t, rfl⟩ ⟨ho, hJ⟩ _ hown hown2 hown3 hst F₁ N₁
    obtain ⟨oI, hoI⟩ : ∃ oI, h.get? s.heap.objs.size = some oI := ⟨_, hst⟩
    have hmem : (s.heap.objs.size, oI) ∈ own := hown3 _ (List.mem_singleton.mpr rfl) (next_is_new F) _ hoI
    refine wpAny_mono (turn i t m₁ news₁ s.heap.objs.size oI h tk hi hJ ho F₁ (newsSub N₁ fun p hp => ?_)) (fun f s₂ q => ?_) fun _ _ e => e
    · rcases List.mem_cons.mp hp with rfl | hp
      · exact List.mem_append_left _ hmem
      · exact List.mem_append_right _ hp
    · obtain ⟨rfl, h', tk', m', news', e, F', N', ho', hJ'⟩ := q
      refine .next ⟨rfl, h', tk', m', news', e, F', newsSub N' fun p hp => ?_, hnI.mp ho', ho', hJ'⟩
      rcases List.mem_append.mp hp with hp | hp
      · have e1 := List.mem_singleton.mp (hown p hp)
        have e2 := hown2 p hp
        have e2' : h.get? s.heap.objs.size = some p.2 := by rw [← e1]; exact e2
        have e3 : p = (s.heap.objs.size, oI) := Prod.ext e1 (Option.some.inj (hoI.symm.trans e2')).symm
        rw [e3]; exact .head _
      · exact .tail _ hp
  · rintro h' tk m' news' F' N' _ ⟨_, hJ⟩
    exact done m' news' h' tk hJ F' N'
end
end Mine
namespace Mine
/-- a second object of the same pure call -/
theorem addD {g h h' : Heap} {L : Addr} {m : Str → Option Value} {news : Led} {r : Value} {B x : Int} (F : Fr g L h m) (N : News g L h' news) (d : FreshD h h' r B x) :
    ∃ a n vs ns, r = .ref a ∧ News g L h' ((a, listOf vs.toArray n) :: news) ∧ IntsAre vs ns ∧ Dg B x ns ∧ ns.length ≤ 300 ∧ ∀ lg : Led, LogIn h lg → Off lg a := by
  obtain ⟨ns, ⟨a, n, vs, e, f, q, i⟩, z, zn⟩ := d
  obtain ⟨oL, es, ep, hL, _⟩ := F.ns
  refine ⟨a, n, vs, ns, e, fun p hp => ?_, i, z, zn, fun lg hl p hp c => ?_⟩
  · rcases List.mem_cons.mp hp with rfl | hp
    · refine ⟨q, fun c => ?_, freshUp F.keep f⟩
      have c' : a = L := c
      rw [c', hL] at f
      exact nomatch f
    · exact N p hp
  · have := hl p hp
    rw [c, f] at this
    cases this
theorem all1 {P : Addr × Obj → Prop} {a : Addr × Obj} (h1 : P a) : ∀ p ∈ [a], P p := List.forall_mem_cons.mpr ⟨h1, List.forall_mem_nil _⟩
theorem all2 {P : Addr × Obj → Prop} {a b : Addr × Obj} (h1 : P a) (h2 : P b) : ∀ p ∈ [a, b], P p := List.forall_mem_cons.mpr ⟨h1, all1 h2⟩
theorem all3 {P : Addr × Obj → Prop} {a b c : Addr × Obj} (h1 : P a) (h2 : P b) (h3 : P c) : ∀ p ∈ [a, b, c], P p := List.forall_mem_cons.mpr ⟨h1, all2 h2 h3⟩
theorem all4 {P : Addr × Obj → Prop} {a b c d : Addr × Obj} (h1 : P a) (h2 : P b) (h3 : P c) (h4 : P d) : ∀ p ∈ [a, b, c, d], P p := List.forall_mem_cons.mpr ⟨h1, all3 h2 h3 h4⟩
theorem all5 {P : Addr × Obj → Prop} {a b c d e : Addr × Obj} (h1 : P a) (h2 : P b) (h3 : P c) (h4 : P d) (h5 : P e) : ∀ p ∈ [a, b, c, d, e], P p := List.forall_mem_cons.mpr ⟨h1, all4 h2 h3 h4 h5⟩
end Mine
namespace Mine
theorem glOf {g h0 h : Heap} {L : Addr} {news lg : Led} (hg : g.StaysIn h0) (N : News h0 L h news) (hs : ∀ p ∈ lg, p ∈ news) : ∀ p ∈ lg, g.get? p.1 = none := fun p hp => freshUp hg (N p (hs p hp)).2.2
theorem lt_of_sz {w : Nat} (hw : 1 ≤ w) {x : Int} (hx : 0 ≤ x) {k : Nat} (h : sz w x ≤ k) : x < ((2 : Int) ^ w) ^ k := (sz_le hw hx).mp h
theorem mul_lt_pow {B x y : Int} (hB : 1 ≤ B) {i j : Nat} (x0 : 0 ≤ x) (y0 : 0 ≤ y) (hx : x < B ^ i) (hy : y < B ^ j) : 0 ≤ x * y ∧ x * y < B ^ (i + j) := by
  refine ⟨Int.mul_nonneg x0 y0, ?_⟩
  have h1 : x * y ≤ x * (B ^ j) := Int.mul_le_mul_of_nonneg_left (by omega) x0
  have h2 : x * B ^ j < B ^ i * B ^ j := Int.mul_lt_mul_of_pos_right hx (pow_pos' hB j)
  rw [Int.pow_add]
  omega
theorem three_lt {B : Int} (hB : 2 ≤ B) {a b c : Int} (ha : a < B ^ 20) (hb : b < B ^ 20) (hc : c < B ^ 20) : a + b + c < B ^ 200 := by
  have e : B ^ 22 = B ^ 20 * (B * B) := by rw [show (22 : Nat) = 20 + 2 from rfl, Int.pow_add]; congr 1; rw [Int.pow_succ, Int.pow_succ]; simp
  have h4 : 4 ≤ B * B := by have := Int.mul_le_mul hB hB (by omega) (by omega); omega
  have p := pow_pos' (show 1 ≤ B by omega) 20
  have h5 : B ^ 20 * 4 ≤ B ^ 20 * (B * B) := Int.mul_le_mul_of_nonneg_left h4 (by omega)
  have h6 := pow_mono (show 1 ≤ B by omega) (show 22 ≤ 200 by decide)
  omega
end Mine
namespace Mine
/-- a call that turns the log, at a return -/
theorem retO {lg lg2 lg' news : Led} {h h0 h1 h' : Heap} {L : Addr} {m : Str → Option Value} {r : Value} {B x : Int} (e : h0 = hideAll h (lg.map (·.1))) (F : Fr h0 L h1 m) (N : News h0 L h1 (news ++ lg2)) (ho : ∀ p ∈ news, Off lg2 p.1) (w0 : Wider lg lg2)
    (k : KeepOff lg2 h1 h') (kl : LogIn h' lg') (kg : Grown lg2 lg' h1) (w : Wider lg2 lg') (d : FreshO h1 h' lg' r B x) : KeepOff lg h h' ∧ LogIn h' lg' ∧ Grown lg lg' h ∧ Wider lg lg' ∧ FreshO h h' lg' r B x := by
  obtain ⟨a, n, vs, ns, rfl, F', N', i, z, zn, oa, _, _⟩ := joinM F N ho k kl kg d
  exact ⟨keepOff_of e F', kl, grown_of e N' fun p hp => .tail _ (List.mem_append_right _ hp), w0.trans w, a, n, vs, ns, rfl, freshOut e ((w0.trans w).off oa) (N' _ (.head _)).2.2, oa, (N' _ (.head _)).1, i, z, zn⟩
theorem small_c {b c : Int} (hb : 0 ≤ b) (hb' : b ≤ 300) (hc : 1 ≤ c) (hc' : c ≤ 300) : Builtin.Range.small 0 b c = true := by
  have h1 : Builtin.Range.rangeSize 0 b c = (b + c - 1) / c := rangeSize_pos hc hb
  have h2 : 0 ≤ (b + c - 1) / c := Int.ediv_nonneg (by omega) (by omega)
  have h3 : (b + c - 1) / c ≤ b + c - 1 := Int.ediv_le_self _ (by omega)
  unfold Builtin.Range.small
  rw [h1]
  simp only [Builtin.Range.rangeFitsLong, Bool.and_eq_true, Bool.or_eq_true, decide_eq_true_eq, beq_iff_eq, show c > 0 by omega, if_true]
  omega
theorem size_c {b c : Nat} (hc : 1 ≤ c) : Builtin.Range.rangeSize 0 (b : Int) (c : Int) = (((b + c - 1) / c : Nat) : Int) := by
  rw [rangeSize_pos (by omega) (by omega)]
  rw [Int.natCast_ediv]
  congr 1
  omega
/-- one piece more -/
theorem unb_step {B x : Int} (hB : 1 ≤ B) (i c : Nat) : x % B ^ ((i + 1) * c) = x % B ^ (i * c) + B ^ (i * c) * (x / B ^ (i * c) % B ^ c) := by
  have p1 := pow_pos' hB (i * c)
  have p2 := pow_pos' hB c
  have m1 := mod_bounds (x := x) hB (i * c)
  have m2 := mod_bounds (x := x / B ^ (i * c)) hB c
  have e1 := Int.mul_ediv_add_emod x (B ^ (i * c))
  have e2 := Int.mul_ediv_add_emod (x / B ^ (i * c)) (B ^ c)
  have e3 : B ^ ((i + 1) * c) = B ^ (i * c) * B ^ c := by rw [← Int.pow_add]; congr 1; rw [Nat.add_mul]; omega
  have h1 : B ^ (i * c) * (x / B ^ (i * c) % B ^ c + 1) ≤ B ^ (i * c) * B ^ c := Int.mul_le_mul_of_nonneg_left (by omega) (by omega)
  have h2 : 0 ≤ B ^ (i * c) * (x / B ^ (i * c) % B ^ c) := Int.mul_nonneg (by omega) m2.1
  rw [Int.mul_add, Int.mul_one] at h1
  refine (divmod_of (q := x / B ^ (i * c) / B ^ c) ?_ (by omega) (by rw [e3]; omega)).1
  rw [e3]
  have e4 : B ^ (i * c) * (B ^ c * (x / B ^ (i * c) / B ^ c) + x / B ^ (i * c) % B ^ c) = B ^ (i * c) * (x / B ^ (i * c)) := by rw [e2]
  rw [Int.mul_add, ← Int.mul_assoc] at e4
  omega
theorem range_flat {α : Type} (f : Nat → List α) (i : Nat) : (List.range (i + 1)).flatMap f = (List.range i).flatMap f ++ f i := by
  rw [List.range_succ, List.flatMap_append]; simp
end Mine
namespace Mine
theorem frAt {h₀ h : Heap} {L : Addr} {m : Str → Option Value} {x : Str} {v : Value} {ps : List (Str × Value)} (F : Fr h₀ L h (fun y => if y = x then some v else m y)) (e : ∀ p ∈ ps, m p.1 = some p.2) : Fr h₀ L h (fun y => if y = x then some v else kstB m ps y) := by
  have em : kstB m ps = m := funext fun y => kstB_eq e fun _ => rfl
  rw [em]; exact F
theorem mod_all {B x : Int} (hB : 1 ≤ B) (h0 : 0 ≤ x) {a c : Nat} (hc : 1 ≤ c) (hx : x < B ^ a) : x % B ^ ((a + c - 1) / c * c) = x := by
  refine Int.emod_eq_of_lt h0 (Int.lt_of_lt_of_le hx (pow_mono hB ?_))
  have h1 := Nat.div_add_mod (a + c - 1) c
  have h2 := Nat.mod_lt (a + c - 1) (show 0 < c by omega)
  rw [Nat.mul_comm] at h1
  omega
end Mine
namespace Mine
theorem turn_lt {i a c : Nat} (hc : 1 ≤ c) (h : i < (a + c - 1) / c) : i * c < a := by
  have h1 : (i + 1) * c ≤ (a + c - 1) / c * c := Nat.mul_le_mul_right c h
  have h2 := Nat.div_mul_le_self (a + c - 1) c
  rw [Nat.add_mul] at h1
  omega
theorem unb_val {B x y : Int} (hB : 1 ≤ B) (i c : Nat) : x % B ^ (i * c) * y + B ^ (i * c) * (x / B ^ (i * c) % B ^ c * y) = x % B ^ ((i + 1) * c) * y := by
  rw [unb_step hB i c, Int.add_mul, Int.mul_assoc]
theorem unb_lt {B x y z : Int} (hB : 1 ≤ B) (x0 : 0 ≤ x) (y0 : 0 ≤ y) (k : Nat) (h : x * y < z) : x % B ^ k * y < z := by
  have := Int.mul_le_mul_of_nonneg_right (mod_le hB x0 k) y0
  omega
end Mine
namespace Mine
section
variable {prog : Program} {w : World} {A : Around} {E : Value → Shared → Prop} {s : Shared} {g : Heap} {L : Addr} {m : Str → Option Value} {news : Led} {f : Addr} {vals : List Value} {Q : Value → Shared → Prop}
/-- a call that turns the log -/
theorem callM {α : Type} {LR : Led → List α → Prop} {l : List α} {lg : Led} {B z : Int} (c : CallM prog w A f vals s lg (fun r h' lg' => LR lg' l ∧ FreshO s.heap h' lg' r B z)) (F : Fr g L s.heap m) (N : News g L s.heap (news ++ lg)) (ho : ∀ p ∈ news, Off lg p.1)
    (h : ∀ a n vs ns h' tk' lg', LR lg' l → Wider lg lg' → Fr g L h' m → News g L h' ((a, listOf vs.toArray n) :: (news ++ lg')) → IntsAre vs ns → Dg B z ns → ns.length ≤ 300 → Off lg' a → (∀ p ∈ news, p.1 ≠ a) → (∀ p ∈ news, Off lg' p.1) → Q (.ref a) { s with heap := h', toks := tk' }) :
    wpAny (model prog w) A (call (.ref f) vals) Q E s := by
  refine wpAny_call (c _ fun r h' tk' lg' k1 k2 k3 k4 hpost => ?_)
  obtain ⟨hl, hfo⟩ := hpost
  obtain ⟨a, n, vs, ns, rfl, F', N', i, d, ln, o, ne, oo⟩ := joinM F N ho k1 k2 k3 hfo
  exact h a n vs ns h' tk' lg' hl k4 F' N' i d ln o ne oo
/-- the log itself goes straight back -/
theorem callMT {α : Type} {LR : Led → List α → Prop} {l : List α} {lg lg0 : Led} {B z : Int} {h : Heap} (c : CallM prog w A f vals s lg (fun r h' lg' => LR lg' l ∧ FreshO s.heap h' lg' r B z)) (e : g = hideAll h (lg0.map (·.1))) (F : Fr g L s.heap m) (N : News g L s.heap (news ++ lg)) (ho : ∀ p ∈ news, Off lg p.1) (w0 : Wider lg0 lg)
    (k : ∀ r h' tk' lg', KeepOff lg0 h h' → LogIn h' lg' → Grown lg0 lg' h → Wider lg0 lg' → LR lg' l ∧ FreshO h h' lg' r B z → Q r { s with heap := h', toks := tk' }) :
    wpAny (model prog w) A (call (.ref f) vals) Q E s := by
  refine wpAny_call (c _ fun r h' tk' lg' k1 k2 k3 k4 hpost => ?_)
  have fin := retO e F N ho w0 k1 k2 k3 k4 hpost.2
  exact k r h' tk' lg' fin.1 fin.2.1 fin.2.2.1 fin.2.2.2.1 ⟨hpost.1, fin.2.2.2.2⟩
/-- a pure call, the last ahead of the return of a def that turns the log -/
theorem callMR {lg lg' : Led} {B z z' : Int} {h : Heap} (c : CallR prog w A f vals s (fun r h' => FreshD s.heap h' r B z)) (ez : z = z') (e : g = hideAll h (lg.map (·.1))) (F : Fr g L s.heap m) (N : News g L s.heap news) (hs : ∀ p ∈ lg', p ∈ news) (wd : Wider lg lg')
    (k : ∀ r h' tk', KeepOff lg h h' → LogIn h' lg' → Grown lg lg' h → FreshO h h' lg' r B z' → Q r { s with heap := h', toks := tk' }) :
    wpAny (model prog w) A (call (.ref f) vals) Q E s := by
  subst ez
  refine wpAny_call (c _ fun r h' tk' hst hpost => ?_)
  have fin := retM e F N hs wd hst hpost
  exact k r h' tk' fin.1 fin.2.1 fin.2.2.1 fin.2.2.2
/-- a pure call that hands back two lists of limbs in a pair -/
theorem callS {B x y : Int} {lg : Led} (c : CallR prog w A f vals s (fun r h' => ∃ v1 v2, FreshT s.heap h' r v1 v2 ∧ FreshD s.heap h' v1 B x ∧ FreshD s.heap h' v2 B y)) (F : Fr g L s.heap m) (N : News g L s.heap news) (hs : ∀ p ∈ lg, p ∈ news)
    (h : ∀ a1 n1 vs1 ns1 a2 n2 vs2 ns2 t h' tk', Fr g L h' m → News g L h' ((t, tupOf [.ref a1, .ref a2]) :: (a2, listOf vs2.toArray n2) :: (a1, listOf vs1.toArray n1) :: news) → IntsAre vs1 ns1 → Dg B x ns1 → ns1.length ≤ 300 → Off lg a1 →
      IntsAre vs2 ns2 → Dg B y ns2 → ns2.length ≤ 300 → Off lg a2 → Q (.ref t) { s with heap := h', toks := tk' }) :
    wpAny (model prog w) A (call (.ref f) vals) Q E s := by
  refine wpAny_call (c _ fun r h' tk' hst hpost => ?_)
  obtain ⟨v1, v2, ht, hd1, hd2⟩ := hpost
  obtain ⟨a1, n1, vs1, ns1, rfl, N1, i1, g1, len1, o1⟩ := addD F (newsStay N hst) hd1
  obtain ⟨a2, n2, vs2, ns2, rfl, N2, i2, g2, len2, o2⟩ := addD F N1 hd2
  obtain ⟨t1, rfl, F3, N3⟩ := joinT F N2 hst ht
  have lgIn := logOf N hs
  exact h a1 n1 vs1 ns1 a2 n2 vs2 ns2 t1 h' tk' F3 N3 i1 g1 len1 (o1 lg lgIn) i2 g2 len2 (o2 lg lgIn)
/-- a pure call that hands back a word and a list of limbs in a pair -/
theorem callB {B y : Int} {lg : Led} {v : Value} (c : CallR prog w A f vals s (fun r h' => ∃ v2, FreshT s.heap h' r v v2 ∧ FreshD s.heap h' v2 B y)) (F : Fr g L s.heap m) (N : News g L s.heap news) (hs : ∀ p ∈ lg, p ∈ news)
    (h : ∀ a n vs ns t h' tk', Fr g L h' m → News g L h' ((t, tupOf [v, .ref a]) :: (a, listOf vs.toArray n) :: news) → IntsAre vs ns → Dg B y ns → ns.length ≤ 300 → Off lg a → Q (.ref t) { s with heap := h', toks := tk' }) :
    wpAny (model prog w) A (call (.ref f) vals) Q E s := by
  refine wpAny_call (c _ fun r h' tk' hst hpost => ?_)
  obtain ⟨v2, ht, hd2⟩ := hpost
  obtain ⟨a2, n2, vs2, ns2, rfl, N2, i2, g2, len2, o2⟩ := addD F (newsStay N hst) hd2
  obtain ⟨t1, rfl, F3, N3⟩ := joinT F N2 hst ht
  exact h a2 n2 vs2 ns2 t1 h' tk' F3 N3 i2 g2 len2 (o2 lg (logOf N hs))
/-- a pure call that hands back a list of limbs, none of the log's -/
theorem callO {B y : Int} {lg : Led} (c : CallR prog w A f vals s (fun r h' => FreshD s.heap h' r B y)) (F : Fr g L s.heap m) (N : News g L s.heap news) (hs : ∀ p ∈ lg, p ∈ news)
    (h : ∀ a n vs ns h' tk', Fr g L h' m → News g L h' ((a, listOf vs.toArray n) :: news) → IntsAre vs ns → Dg B y ns → ns.length ≤ 300 → Off lg a → Q (.ref a) { s with heap := h', toks := tk' }) :
    wpAny (model prog w) A (call (.ref f) vals) Q E s :=
  callD c F N fun a n vs ns h' tk' F' N' i d l ne => h a n vs ns h' tk' F' N' i d l fun p hp => ne p (hs p hp)
end
end Mine
end
section
open PySem PySem.W PyProof.Rows PySem.Calls
namespace Mine

/-- what a product's call does: the log grows by l', the result is the product -/
def MulPost {α : Type} (LR : Led → List α → Prop) (l : List α) (s : Shared) (B z : Int) (r : Value) (h' : Heap) (lg' : Led) : Prop := LR lg' l ∧ FreshO s.heap h' lg' r B z

def MulOk (prog : Program) (w : World) (g : Heap) (LR : Led → List (Int × Int) → Prop) (B wv : Int) (fm : Addr) : Prop :=
  ∀ (dp un : Nat) (fr : Option (List Env)) (gd : Option (List Code)) (s : Shared) (lg : Led) (l : List (Int × Int)) (va vb : Value) (x y : Int) (tw : Tok),
    dp < 880 → g.StaysIn s.heap → (∀ p ∈ lg, g.get? p.1 = none) → LogIn s.heap lg → LR lg l → LDo s.heap lg va B x → LDo s.heap lg vb B y → x < B ^ 10 → y < B ^ 10 → l.length < 1000000 →
    CallM prog w (AR dp un fr gd) fm [va, vb, .int wv tw] s lg (MulPost LR (l ++ [(x, y)]) s B (x * y))

def MulTells (prog : Program) (w : World) (g : Heap) (LR : Led → List (Int × Int) → Prop) (wn : Nat) (wv : Int) (least : Int) (fm : Addr) (n : Nat) : Prop :=
  ∀ (dp un : Nat) (fr : Option (List Env)) (gd : Option (List Code)) (s : Shared) (lg : Led) (l : List (Int × Int)) (va vb : Value) (x y : Int) (tw tl : Tok),
    dp + 2 * n < 850 → g.StaysIn s.heap → (∀ p ∈ lg, g.get? p.1 = none) → LogIn s.heap lg → LR lg l → LDo s.heap lg va (2 ^ wn) x → LDo s.heap lg vb (2 ^ wn) y → sz wn x ≤ 10 → sz wn y ≤ 10 → sz wn x + sz wn y < n → l.length + (prodsF wn least n x y).length ≤ 1000000 →
    CallM prog w (AR dp un fr gd) 116 [va, vb, .int wv tw, .int least tl, .ref fm] s lg (MulPost LR (l ++ prodsF wn least n x y) s (2 ^ wn) (x * y))

def MulInv (s : Shared) (h0 : Heap) (L : Addr) (lg : Led) (B x y wv least : Int) (fm : Addr) (tw tl : Tok) (s' : Shared) : Prop := ∃ h' tk va vb, s' = { s with heap := h', toks := tk } ∧
  (∃ m, Fr h0 L h' m ∧ ∀ p ∈ [(Str.ofString "b", vb), (Str.ofString "a", va), (Str.ofString "w", .int wv tw), (Str.ofString "least", .int least tl), (Str.ofString "mul", .ref fm)], m p.1 = some p.2) ∧ News h0 L h' lg ∧ LD h0 va B x ∧ LD h0 vb B y

theorem two_ways {Inv : Int → Int → Shared → Prop} {G : Shared → Prop} {c : Prop} [Decidable c] {x y : Int} (Good : Int → Int → Prop) (h1 : c → Good y x) (h2 : ¬ c → Good x y) (key : ∀ a b, Good a b → ∀ s', Inv a b s' → G s') :
    ∀ s', (if c then Inv y x else Inv x y) s' → G s' := by
  intro s' h
  by_cases q : c
  · rw [if_pos q] at h; exact key _ _ (h1 q) _ h
  · rw [if_neg q] at h; exact key _ _ (h2 q) _ h
def MulGood {α : Type} (LR : Led → List α → Prop) (s : Shared) (lg : Led) (R : Result → Shared → Prop) (wn n : Nat) (pr : Int → Int → List α) (l : List α) (a b : Int) : Prop :=
  ¬ sz wn a < sz wn b ∧ sz wn a ≤ 10 ∧ sz wn b ≤ 10 ∧ sz wn a + sz wn b ≤ n ∧ l.length + (pr a b).length ≤ 1000000 ∧ ∀ r h' tk' lg', KeepOff lg s.heap h' → LogIn h' lg' → Grown lg lg' s.heap → Wider lg lg' → MulPost LR (l ++ pr a b) s (2 ^ wn) (a * b) r h' lg' → R (.ok (.ret r)) { s with heap := h', toks := tk' }

theorem flat_mono {α : Type} (f : Nat → List α) {i c : Nat} (h : i ≤ c) : ((List.range i).flatMap f).length ≤ ((List.range c).flatMap f).length := by
  induction c with
  | zero => have : i = 0 := by omega
            subst this; exact Nat.le_refl _
  | succ c ih =>
    by_cases q : i = c + 1
    · subst q; exact Nat.le_refl _
    · have := ih (by omega)
      rw [range_flat, List.length_append]
      omega
theorem flat_part {α : Type} (f : Nat → List α) {i c : Nat} (h : i < c) (l : List α) (hl : l.length + ((List.range c).flatMap f).length ≤ 1000000) : (l ++ (List.range i).flatMap f).length + (f i).length ≤ 1000000 := by
  have := flat_mono f (show i + 1 ≤ c from h)
  rw [range_flat, List.length_append] at this
  rw [List.length_append]
  omega
theorem FnAt.keeps {q : Addr} {g h : Heap} (x : FnAt q g) (k : ∀ b o, g.get? b = some o → h.get? b = some o) : FnAt q h := let ⟨a, b, c, d, e⟩ := x; ⟨a, b, c, d, k _ _ e⟩

theorem mul_step {prog : Program} {w : World} {p : Program} {loose : List Str} {mean : ExcName → Option Value} {mg mb : Str → Option Value}
   {g : Heap} {LR : Led → List (Int × Int) → Prop} {wn : Nat} {wv least : Int} {fm : Addr}
   (X : (hd.heap_39 w.params).In g) (T : Top p loose mean mg mb g) (hfm : FnAt fm g) (hw1 : 1 ≤ wv) (hw5 : wv ≤ 5) (hwn : wn = wv.toNat) (hmul : MulOk prog w g LR (2 ^ wn) wv fm)
   (n : Nat) (ih : MulTells prog w g LR wn wv least fm n) : MulTells prog w g LR wn wv least fm (n + 1) := by
  intro dp un fr gd s lg l va vb x y tw tl hdp hg hgl hlg hLR hA hBB hsx hsy hsz hlen
  intro R hR
  obtain ⟨hdp1, hdp2⟩ := upDp hdp
  have hB : (2 : Int) ^ wn = 2 ^ wv.toNat := by rw [hwn]
  have hB2 : (2 : Int) ≤ 2 ^ wn := by
    have := pow_mono (show (1 : Int) ≤ 2 by omega) (show 1 ≤ wn by omega)
    omega
  refine' enterM [(Str.ofString "a", va), (Str.ofString "b", vb), (Str.ofString "w", .int wv tw), (Str.ofString "least", .int least tl), (Str.ofString "mul", .ref fm)] X T hg hgl hlg ?k6 ?k7 ?k8 ?k9 ?kB ?_ ?c2 ?c3 ?c4 ?c5
  case k6 => k_is
  case k7 => k_is
  case k8 => exact Nat.lt_trans (Nat.lt_succ_self dp) (Nat.lt_trans hdp1 (by decide))
  case k9 => exact BindsTo.of_eq rfl
  case kB => exact locs rfl
  case c2 => exact rfl
  case c3 => exact rfl
  case c4 => exact rfl
  case c5 => decide
  intro L h₁ tk h0 he0 hg0 X0 T0 F N hs1
  have dA := hA.hide
  have dB := hBB.hide
  rw [← he0] at dA dB
  refine execs_cut (if sz wn x < sz wn y then MulInv s h0 L lg (2 ^ wn) y x wv least fm tw tl else MulInv s h0 L lg (2 ^ wn) x y wv least fm tw tl) ?_ ?_
  · obtain ⟨ra, vs, ns, rfl, hl, hi, hx, hn⟩ := id dA
    obtain ⟨rb, us, ms, rfl, hl2, hi2, hy, hn2⟩ := id dB
    have e1 := sz_len (by omega) hx
    have e2 := sz_len (by omega) hy
    show wpAny _ _ _ _ _ _
    k_fold
    k_with_none
    k_steps
    · rename Fr _ _ _ _ => F'
      rename News _ _ _ _ => N'
      rename ((ns.length : Int) < _) => hlt
      rw [if_pos (by omega)]
      exact ⟨_, _, _, _, rfl, ⟨_, F', by kst_all⟩, newsSub N' (fun p hp => .tail _ hp), dB, dA⟩
    · rename (¬ (ns.length : Int) < _) => hlt
      rw [if_neg (by omega)]
      exact ⟨_, _, _, _, rfl, ⟨_, F, by kst_all⟩, N, dA, dB⟩
  · clear F N
    refine two_ways (Inv := fun a b => MulInv s h0 L lg (2 ^ wn) a b wv least fm tw tl) (MulGood LR s lg R wn n (prodsC wn least (prodsF wn least n)) l)
      (fun q => ⟨by omega, hsy, hsx, by omega, by rw [prodsF, if_pos q] at hlen; exact hlen, fun r h' tk' lg' k1 k2 k3 k4 k5 => hR r h' tk' lg' k1 k2 k3 k4 ?_⟩) (fun q => ⟨q, hsx, hsy, by omega, by rw [prodsF, if_neg q] at hlen; exact hlen, fun r h' tk' lg' k1 k2 k3 k4 k5 => hR r h' tk' lg' k1 k2 k3 k4 ?_⟩) ?_
    · rw [prodsF, if_pos q, Int.mul_comm]; exact k5
    · rw [prodsF, if_neg q]; exact k5
    clear hR dA dB hA hBB hsx hsy hsz hlen
    clear x y va vb
    rintro x y ⟨hord, hsx, hsy, hsz, hlen, hR⟩ s' ⟨h', tk', va, vb, rfl, ⟨m, F, hm⟩, N, dA, dB⟩
    obtain ⟨ra, vs, ns, rfl, hl, hi, hx, hn⟩ := id dA
    obtain ⟨rb, us, ms, rfl, hl2, hi2, hy, hn2⟩ := id dB
    replace F := frOf _ F hm
    dsimp only [kstB] at F
    have e1 := sz_len (by omega) hx
    have e2 := sz_len (by omega) hy
    show wpAny _ _ _ _ _ _
    k_fold
    k_with_none
    k_with "pyIter ref" => refine stop_of ?_
    k_with "call ref" => refine stop_of ?_
    k_steps
    · rename Fr _ _ _ _ => F'
      rename News _ _ _ _ => N'
      rename ((ms.length : Int) < _) => hlt
      refine callWith_F (q := fm) (FnAt.keeps hfm fun b o e => F'.keep _ _ (hg0 _ _ e)) ?_
      k_steps
      · exact FnAt.keeps hfm fun b o e => F'.keep _ _ (hg0 _ _ e)
      · show wpAny _ _ _ _ _ _
        have x0 := hx.nonneg (by omega)
        have y0 := hy.nonneg (by omega)
        have lx : x < (2 ^ wn) ^ 10 := lt_of_sz (by omega) x0 hsx
        have ly : y < (2 ^ wn) ^ 10 := lt_of_sz (by omega) y0 hsy
        have hl1 : (prodsC wn least (prodsF wn least n) x y).length = 1 := by unfold prodsC; rw [if_pos (by split at hlt <;> omega)]; rfl
        refine callMT (news := []) (hmul _ _ _ _ _ lg l _ _ x y _ (up880 hdp1) (fun b o e => F'.keep _ _ (hg0 _ _ e)) hgl (logOf N' fun p hp => hp) hLR (dA.off F' N') (dB.off F' N') lx ly (by omega)) he0 F' N' (fun _ h => nomatch h) (Wider.refl lg) fun r h' tk' lg1 k1 k2 k3 w1 hpost => ?_
        have hLR1 := hpost.1
        refine hR _ _ _ lg1 k1 k2 k3 w1 ⟨?_, hpost.2⟩
        unfold prodsC
        rw [if_pos (by split at hlt <;> omega)]
        exact hLR1
    · show wpAny _ _ _ _ _ _
      rename Fr _ _ _ _ => F'
      rename News _ _ _ _ => N'
      rename (¬ (ms.length : Int) < _) => hge
      rename (2 * (ms.length : Int) ≤ _) => hun
      rename (∀ p ∈ lg, _) => hlf
      have hge2 : 2 ≤ ms.length := by split at hge <;> omega
      have x0 := hx.nonneg (by omega)
      have y0 := hy.nonneg (by omega)
      have B1 : (1 : Int) ≤ 2 ^ wn := by omega
      have hPr : prodsC wn least (prodsF wn least n) x y = (List.range ((sz wn x + sz wn y - 1) / sz wn y)).flatMap fun i => prodsF wn least n (x / ((2 : Int) ^ wn) ^ (i * sz wn y) % ((2 : Int) ^ wn) ^ sz wn y) y := by
        unfold prodsC
        rw [if_neg (by split at hge <;> omega), if_pos (by omega)]
      rw [e1, e2] at hPr
      have hlenP := hlen
      rw [hPr] at hlenP
      have bx : x < (2 ^ wn) ^ ns.length := hx.lt B1
      have lx : x < (2 ^ wn) ^ 10 := lt_of_sz (by omega) x0 hsx
      have ly : y < (2 ^ wn) ^ 10 := lt_of_sz (by omega) y0 hsy
      have m4 := mul_lt_pow B1 x0 y0 lx ly
      with_unfolding_all refine' loopC (fun i m nx => ∃ lf nf vf nsf lg', nx = (lf, listOf (List.toArray vf) nf) :: lg' ∧ Off lg' lf ∧ Wider lg lg' ∧ LR lg' (l ++ (List.range i).flatMap fun j => prodsF wn least n (x / ((2 : Int) ^ wn) ^ (j * ms.length) % ((2 : Int) ^ wn) ^ ms.length) y) ∧ IntsAre vf nsf ∧ Dg (2 ^ wn) (x % (2 ^ wn) ^ (i * ms.length) * y) nsf ∧ nsf.length ≤ 300 ∧ ∀ p ∈ [(Str.ofString "found", Value.ref lf), (Str.ofString "b", Value.ref rb), (Str.ofString "a", Value.ref ra), (Str.ofString "w", .int wv tw), (Str.ofString "least", .int least tl), (Str.ofString "mul", .ref fm)], m p.1 = some p.2) (by rfl) (by assumption) (small_c (by omega) (by omega) (by omega) (by omega)) (size_c (by omega)) (by assumption) (by assumption) ?start ?turn ?done
      case start =>
        refine ⟨_, _, [], [], lg, rfl, fun p hp => Nat.ne_of_lt (hlf p hp), Wider.refl lg, by simpa using hLR, .nil, ?_, by simp, by kst_all⟩
        rw [Nat.zero_mul, Int.pow_zero, Int.emod_one, Int.zero_mul]
        exact .zero
      case done =>
        rintro m₁ news₁ h tk ⟨lf, nf, vf, nsf, lg', rfl, hof, hwd, hLR', hiv, hdg, hlen, hm'⟩ F N
        replace F := frOf _ F hm'
        dsimp only [kstB] at F
        show wpAny _ _ _ _ _ _
        k_steps
        rw [mod_all B1 x0 (by omega) bx] at hdg
        refine hR _ _ _ lg' (keepOff_of he0 F) (logOf N fun p hp => .tail _ hp) (grown_of he0 N fun p hp => .tail _ hp) hwd ⟨by rw [hPr]; exact hLR', lf, nf, vf, nsf, rfl, freshOut he0 (hwd.off hof) (N.fresh (.head _)), hof, N.get (.head _), hiv, hdg, hlen⟩
      case turn =>
        rintro i t m₁ news₁ I oI h tk hi ⟨lf, nf, vf, nsf, lg', rfl, hof, hwd, hLR', hiv, hdg, hlen, hm'⟩ hI F N
        replace F := frAt F hm'
        dsimp only [kstB] at F
        show wpAny _ _ _ _ _ _
        k_fold
        k_steps
        show wpAny _ _ _ _ _ _
        have hic := turn_lt (show 1 ≤ ms.length by omega) hi
        have hat : (0 : Int) + (i : Int) * (ms.length : Int) = ((i * ms.length : Nat) : Int) := by rw [Int.zero_add, Int.natCast_mul]
        rw [hat] at F ⊢
        have hst2 := unb_val (x := x) (y := y) B1 i ms.length
        have hlt2 := unb_lt B1 x0 y0 ((i + 1) * ms.length) (Int.lt_of_lt_of_le m4.2 (pow_mono B1 (show 10 + 10 ≤ 200 by decide)))
        have hps := piece_sz (w := wn) (x := x) (by omega) (i * ms.length) ms.length
        have hoI : Off lg' I := fun p hp => hI p (.tail _ hp)
        have hlenI := flat_part (fun j => prodsF wn least n (x / ((2 : Int) ^ wn) ^ (j * ms.length) % ((2 : Int) ^ wn) ^ ms.length) y) hi l hlenP
        have hrf := range_flat (fun j => prodsF wn least n (x / ((2 : Int) ^ wn) ^ (j * ms.length) % ((2 : Int) ^ wn) ^ ms.length) y) i
        generalize i * ms.length = e at *
        generalize he' : (i + 1) * ms.length = e' at *
        refine callO (lg := lg') (piece_spec (up890 hdp1) (X0.keeps F.keep) (T0.keeps F.keep) (dA.keeps F.keep) hB2 (by omega) (by omega) (by omega)) F N (fun p hp => .tail _ (.tail _ hp)) fun a1 n1 vs1 ns1 h' tk' F1 N1 i1 g1 len1 o1 => ?_
        clear F N
        rw [show ((e : Int) + (ms.length : Int) - (e : Int)).toNat = ms.length by omega, show ((e : Int)).toNat = e by omega] at g1
        dsimp only
        k_steps
        show wpAny _ _ _ _ _ _
        have sub1 : ∀ p ∈ lg', p ∈ [(a1, W.listOf vs1.toArray n1), (I, oI), (lf, W.listOf vf.toArray nf)] ++ lg' := fun p hp => List.mem_append_right _ hp
        have N2 : News h0 L _ ([(a1, W.listOf vs1.toArray n1), (I, oI), (lf, W.listOf vf.toArray nf)] ++ lg') := N1
        refine callM (news := [(a1, W.listOf vs1.toArray n1), (I, oI), (lf, W.listOf vf.toArray nf)]) (ih _ _ _ _ _ lg' _ _ _ (x / (2 ^ wn) ^ e % (2 ^ wn) ^ ms.length) y _ _ hdp2 (fun b o e => F1.keep _ _ (hg0 _ _ e)) (glOf hg0 N2 sub1) (logOf N2 sub1) hLR' (ldoNews N2 (by k_mem) o1 i1 g1 len1) (dB.off F1 (newsSub N2 sub1)) (by omega) hsy (by omega) hlenI) F1 N2 (all3 o1 hoI hof) fun a2 n2 vs2 ns2 h' tk' lg2 hLR2 w2 F2 N3 i2 g2 len2 o2 _ oo => ?_
        clear F1 N1 N2 o1
        have oI2 := oo _ (.tail _ (.head _))
        clear oo
        dsimp only
        k_steps
        show wpAny _ _ _ _ _ _
        refine callD (addat_spec (up890 hdp1) (X0.keeps F2.keep) (T0.keeps F2.keep) (ldNews N3 (by k_mem) hiv hdg hlen) (ldNews N3 (by k_mem) i2 g2 len2) hw1 hw5 hB hB2 (by omega) (by omega) (by rw [Int.toNat_natCast, hst2]; exact hlt2)) F2 N3 fun a3 n3 vs3 ns3 h' tk' F3 N4 i3 g3 len3 ne3 => ?_
        rw [Int.toNat_natCast, hst2] at g3
        clear F2 N3
        dsimp only
        k_steps
        rename Fr _ _ _ _ => F'
        rename News _ _ _ _ => N'
        have nI : I ≠ a3 := ne3 (I, oI) (by simp)
        refine ⟨rfl, _, _, _, (a3, listOf vs3.toArray n3) :: lg2, rfl, F', newsSub N' fun p hp => ?_, fun p hp => ?_, a3, n3, vs3, ns3, lg2, rfl, fun p hp => ne3 p (by simp [hp]), hwd.trans w2, ?_, i3, by rw [he']; exact g3, len3, by kst_all⟩
        · rcases List.mem_cons.mp hp with rfl | hp
          · simp
          · rcases List.mem_cons.mp hp with rfl | hp <;> simp [*]
        · rcases List.mem_cons.mp hp with rfl | hp
          · exact Ne.symm nI
          · exact oI2 p hp
        · rw [hrf, ← List.append_assoc]; exact hLR2
    · show wpAny _ _ _ _ _ _
      rename Fr _ _ _ _ => F'
      rename News _ _ _ _ => N'
      rename (¬ (ms.length : Int) < _) => hge
      rename (¬ 2 * (ms.length : Int) ≤ _) => hnu
      have hge2 : 2 ≤ ms.length := by split at hge <;> omega
      have hsp : ((ns.length : Int) + 1).fdiv 2 = (((sz wn x + 1) / 2 : Nat) : Int) := by rw [Int.fdiv_eq_ediv_of_nonneg _ (by omega), e1]; omega
      have x0 := hx.nonneg (by omega)
      have y0 := hy.nonneg (by omega)
      have hv := halves (show 1 ≤ wn by omega) x0 (by omega)
      have hv2 := parts (show 1 ≤ wn by omega) y0 ((sz wn x + 1) / 2)
      rw [hsp] at F'
      rw [hsp]
      have hk : (sz wn x + 1) / 2 < sz wn x := by omega
      have hk1 : (sz wn x + 1) / 2 ≤ 10 := by omega
      have hPr : prodsC wn least (prodsF wn least n) x y = prodsF wn least n (x % (2 ^ wn) ^ ((sz wn x + 1) / 2)) (y % (2 ^ wn) ^ ((sz wn x + 1) / 2)) ++ prodsF wn least n (x / (2 ^ wn) ^ ((sz wn x + 1) / 2)) (y / (2 ^ wn) ^ ((sz wn x + 1) / 2))
          ++ prodsF wn least n ((x % (2 ^ wn) ^ ((sz wn x + 1) / 2) - x / (2 ^ wn) ^ ((sz wn x + 1) / 2)).natAbs : Int) ((y % (2 ^ wn) ^ ((sz wn x + 1) / 2) - y / (2 ^ wn) ^ ((sz wn x + 1) / 2)).natAbs : Int) := by
        unfold prodsC
        rw [if_neg (by split at hge <;> omega), if_neg (by omega)]
      rw [hPr] at hlen
      simp only [List.length_append] at hlen
      generalize (sz wn x + 1) / 2 = k at hsp hv hv2 F' hk hk1 hPr hlen ⊢
      have k100 : (k : Int) ≤ 100 := by omega
      refine callS (lg := lg) (split_spec (up890 hdp1) (X0.keeps F'.keep) (T0.keeps F'.keep) (dA.keeps F'.keep) hB2 (natInt k) k100) F' N' (fun p hp => hp) fun a1 n1 vs1 ns1 a2 n2 vs2 ns2 t1 h' tk' F3 N3 i1 g1 len1 o1 i2 g2 len2 o2 => ?_
      clear F' N'
      rw [Int.toNat_natCast] at g1 g2
      dsimp only
      k_steps
      show wpAny _ _ _ _ _ _
      rename Fr _ _ _ _ => F'
      rename News _ _ _ _ => N'
      refine callS (lg := lg) (split_spec (up890 hdp1) (X0.keeps F'.keep) (T0.keeps F'.keep) (dB.keeps F'.keep) hB2 (natInt k) k100) F' N' (fun p hp => .tail _ (.tail _ (.tail _ hp))) fun a3 n3 vs3 ns3 a4 n4 vs4 ns4 t2 h' tk' F3 N3 i3 g3 len3 o3 i4 g4 len4 o4 => ?_
      clear F' N'
      rw [Int.toNat_natCast] at g3 g4
      dsimp only
      k_steps
      show wpAny _ _ _ _ _ _
      rename Fr _ _ _ _ => F'
      rename News _ _ _ _ => N'
      have hxe : x = x % (2 ^ wn) ^ k + (2 ^ wn) ^ k * (x / (2 ^ wn) ^ k) := by have := Int.mul_ediv_add_emod x ((2 ^ wn) ^ k); omega
      have hye : y = y % (2 ^ wn) ^ k + (2 ^ wn) ^ k * (y / (2 ^ wn) ^ k) := by have := Int.mul_ediv_add_emod y ((2 ^ wn) ^ k); omega
      have bx := sz_lt_self (show 1 ≤ wn by omega) x0
      have by' := sz_lt_self (show 1 ≤ wn by omega) y0
      have zs : ∀ {a : Nat}, a ≤ k → a ≤ 10 := fun h => Nat.le_trans h hk1
      have zy : ∀ {a : Nat}, a ≤ sz wn y → a ≤ 10 := fun h => Nat.le_trans h hsy
      have zn : ∀ {a b : Nat}, a ≤ k → b ≤ sz wn y → a + b < n := fun h1 h2 => Nat.lt_of_lt_of_le (Nat.add_lt_add_of_lt_of_le (Nat.lt_of_le_of_lt h1 hk) h2) hsz
      generalize x % (2 ^ wn) ^ k = XL, x / (2 ^ wn) ^ k = XH, y % (2 ^ wn) ^ k = YL, y / (2 ^ wn) ^ k = YH at hxe hye hv hv2 hPr hlen g1 g2 g3 g4
      have N1 : News h0 L _ ([(a4, W.listOf vs4.toArray n4), (a3, W.listOf vs3.toArray n3), (a2, W.listOf vs2.toArray n2), (a1, W.listOf vs1.toArray n1)] ++ lg) := newsSub N' (by kst_inAny)
      clear N'
      refine callM (ih _ _ _ _ _ lg l _ _ XL YL _ _ hdp2 (fun b o e => F'.keep _ _ (hg0 _ _ e)) hgl (logOf N1 fun p hp => List.mem_append_right _ hp) hLR (ldoNews N1 (by k_mem) o1 i1 g1 len1) (ldoNews N1 (by k_mem) o3 i3 g3 len3) (zs hv.1) (zy hv2.1) (zn hv.1 hv2.1) (by omega)) F' N1 (all4 o4 o3 o2 o1) fun a5 n5 vs5 ns5 h' tk' lg1 hLR1 w1 F2 N2 i5 g5 len5 o5 _ oo => ?_
      clear F' N1 o1 o3
      replace o4 := oo _ (.head _)
      replace o2 := oo _ (.tail _ (.tail _ (.head _)))
      have o3 := oo _ (.tail _ (.head _))
      have o1 := oo _ (.tail _ (.tail _ (.tail _ (.head _))))
      clear oo
      dsimp only
      k_steps
      show wpAny _ _ _ _ _ _
      rename Fr _ _ _ _ => F'
      rename News _ _ _ _ => N'
      have N1 : News h0 L _ ([(a5, W.listOf vs5.toArray n5), (a4, W.listOf vs4.toArray n4), (a3, W.listOf vs3.toArray n3), (a2, W.listOf vs2.toArray n2), (a1, W.listOf vs1.toArray n1)] ++ lg1) := N'
      clear N'
      have sub1 : ∀ p ∈ lg1, p ∈ [(a5, W.listOf vs5.toArray n5), (a4, W.listOf vs4.toArray n4), (a3, W.listOf vs3.toArray n3), (a2, W.listOf vs2.toArray n2), (a1, W.listOf vs1.toArray n1)] ++ lg1 := fun p hp => List.mem_append_right _ hp
      refine callM (ih _ _ _ _ _ lg1 _ _ _ XH YH _ _ hdp2 (fun b o e => F'.keep _ _ (hg0 _ _ e)) (glOf hg0 N1 sub1) (logOf N1 sub1) hLR1 (ldoNews N1 (by k_mem) o2 i2 g2 len2) (ldoNews N1 (by k_mem) o4 i4 g4 len4) (zs hv.2.1) (zy hv2.2.1) (zn hv.2.1 hv2.2.1) (by simp only [List.length_append]; omega)) F' N1 (all5 o5 o4 o3 o2 o1) fun a6 n6 vs6 ns6 h' tk' lg2 hLR2 w2 F2 N2 i6 g6 len6 o6 _ oo => ?_
      clear F' N1 o1 o2 o3 o4 o5
      have o5 := oo _ (.head _)
      clear oo
      dsimp only
      k_steps
      show wpAny _ _ _ _ _ _
      rename Fr _ _ _ _ => F'
      rename News _ _ _ _ => N'
      refine callB (lg := lg2) (diff_spec (up880 hdp1) (X0.keeps F'.keep) (T0.keeps F'.keep) (ldNews N' (by k_mem) i1 g1 len1) (ldNews N' (by k_mem) i2 g2 len2) hw1 hw5 hB hB2) F' N' (fun p hp => .tail _ (List.mem_append_right _ hp)) fun a7 n7 vs7 ns7 t3 h' tk' F3 N3 i7 g7 len7 o7 => ?_
      clear F' N'
      dsimp only
      k_steps
      show wpAny _ _ _ _ _ _
      rename Fr _ _ _ _ => F'
      rename News _ _ _ _ => N'
      refine callB (lg := lg2) (diff_spec (up880 hdp1) (X0.keeps F'.keep) (T0.keeps F'.keep) (ldNews N' (by k_mem) i3 g3 len3) (ldNews N' (by k_mem) i4 g4 len4) hw1 hw5 hB hB2) F' N' (fun p hp => .tail _ (.tail _ (.tail _ (List.mem_append_right _ hp)))) fun a8 n8 vs8 ns8 t4 h' tk' F3 N3 i8 g8 len8 o8 => ?_
      clear F' N'
      dsimp only
      k_steps
      show wpAny _ _ _ _ _ _
      rename Fr _ _ _ _ => F'
      rename News _ _ _ _ => N'
      have N1 : News h0 L _ ([(a8, W.listOf vs8.toArray n8), (a7, W.listOf vs7.toArray n7), (a6, W.listOf vs6.toArray n6), (a5, W.listOf vs5.toArray n5)] ++ lg2) := newsSub N' (by
        intro p hp
        rcases List.mem_append.mp hp with hp | hp
        · simp only [List.mem_cons, List.not_mem_nil, or_false] at hp
          rcases hp with rfl | rfl | rfl | rfl <;> simp
        · simp [hp])
      clear N'
      have sub2 : ∀ p ∈ lg2, p ∈ [(a8, W.listOf vs8.toArray n8), (a7, W.listOf vs7.toArray n7), (a6, W.listOf vs6.toArray n6), (a5, W.listOf vs5.toArray n5)] ++ lg2 := fun p hp => List.mem_append_right _ hp
      refine callM (ih _ _ _ _ _ lg2 _ _ _ ((XL - XH).natAbs : Int) ((YL - YH).natAbs : Int) _ _ hdp2 (fun b o e => F'.keep _ _ (hg0 _ _ e)) (glOf hg0 N1 sub2) (logOf N1 sub2) hLR2 (ldoNews N1 (by k_mem) o7 i7 g7 len7) (ldoNews N1 (by k_mem) o8 i8 g8 len8) (zs hv.2.2) (zy hv2.2.2) (zn hv.2.2 hv2.2.2) (by simp only [List.length_append]; omega)) F' N1 (all4 o8 o7 o6 o5) fun a9 n9 vs9 ns9 h' tk' lg3 hLR3 w3 F2 N2 i9 g9 len9 o9 _ oo => ?_
      clear F' N1 o5 o6 o7 o8 oo
      dsimp only
      k_steps
      show wpAny _ _ _ _ _ _
      rename Fr _ _ _ _ => F'
      rename News _ _ _ _ => N'
      have B1 : (1 : Int) ≤ 2 ^ wn := by omega
      have lx : ∀ {a : Int}, sz wn a ≤ k → 0 ≤ a → a < (2 ^ wn) ^ 10 := fun q q0 => Int.lt_of_lt_of_le (lt_of_sz (by omega) q0 q) (pow_mono B1 hk1)
      have ly : ∀ {a : Int}, sz wn a ≤ sz wn y → 0 ≤ a → a < (2 ^ wn) ^ 10 := fun q q0 => Int.lt_of_lt_of_le (lt_of_sz (by omega) q0 q) (pow_mono B1 hsy)
      have q1 := g1.nonneg B1
      have q2 := g2.nonneg B1
      have q3 := g3.nonneg B1
      have q4 := g4.nonneg B1
      have m1 := mul_lt_pow B1 q1 q3 (lx hv.1 q1) (ly hv2.1 q3)
      have m2 := mul_lt_pow B1 q2 q4 (lx hv.2.1 q2) (ly hv2.2.1 q4)
      have m3 := mul_lt_pow B1 (show (0 : Int) ≤ ((XL - XH).natAbs : Int) by omega) (show (0 : Int) ≤ ((YL - YH).natAbs : Int) by omega) (lx hv.2.2 (by omega)) (ly hv2.2.2 (by omega))
      have hle := kara_le (xl := XL) (xh := XH) (yl := YL) (yh := YH) q1 q2 q3 q4
      have hka := kara (xl := XL) (xh := XH) (yl := YL) (yh := YH) (S := (2 ^ wn) ^ k)
      have m4 := mul_lt_pow B1 x0 y0 (Int.lt_of_lt_of_le bx (pow_mono B1 hsx)) (Int.lt_of_lt_of_le by' (pow_mono B1 hsy))
      refine callD (mid_spec (up880 hdp1) (X0.keeps F'.keep) (T0.keeps F'.keep) (ldNews N' (by k_mem) i5 g5 len5) (ldNews N' (by k_mem) i6 g6 len6) (ldNews N' (by k_mem) i9 g9 len9) hw1 hw5 hB hB2 hle (three_lt hB2 m1.2 m2.2 m3.2)) F' N' fun a10 n10 vs10 ns10 h' tk' F3 N3 i10 g10 len10 _ => ?_
      clear F' N'
      dsimp only
      k_steps
      show wpAny _ _ _ _ _ _
      rename Fr _ _ _ _ => F'
      rename News _ _ _ _ => N'
      have e2k : (2 * (k : Int)).toNat = k + k := by omega
      have hval : XL * YL + (2 ^ wn) ^ ((k : Int).toNat) * (if (decide (XL < XH) != decide (YL < YH)) = true then XL * YL + XH * YH + ((XL - XH).natAbs : Int) * ((YL - YH).natAbs : Int) else XL * YL + XH * YH - ((XL - XH).natAbs : Int) * ((YL - YH).natAbs : Int)) + (2 ^ wn) ^ ((2 * (k : Int)).toNat) * (XH * YH) = x * y := by
        rw [e2k, Int.pow_add, Int.toNat_natCast, hka, ← hxe, ← hye]
      have hlim : x * y < (2 ^ wn) ^ 200 := Int.lt_of_lt_of_le m4.2 (pow_mono B1 (by decide))
      refine callMR (put_spec (up880 hdp1) (X0.keeps F'.keep) (T0.keeps F'.keep) (ldNews N' (by k_mem) i5 g5 len5) (ldNews N' (by k_mem) i10 g10 len10) (ldNews N' (by k_mem) i6 g6 len6) hw1 hw5 hB hB2 (by omega) (by omega) (by rw [hval]; exact hlim)) hval he0 F' N' (lg' := lg3) (fun p hp => by kst_mem) ((w1.trans w2).trans w3) fun r h' tk' k1 k2 k3 hfo => ?_
      refine hR _ _ _ lg3 k1 k2 k3 ((w1.trans w2).trans w3) ⟨?_, hfo⟩
      rw [hPr]
      simpa only [List.append_assoc] using hLR3

theorem mul_all {prog : Program} {w : World} {p : Program} {loose : List Str} {mean : ExcName → Option Value} {mg mb : Str → Option Value}
   {g : Heap} {LR : Led → List (Int × Int) → Prop} {wn : Nat} {wv least : Int} {fm : Addr}
   (X : (hd.heap_39 w.params).In g) (T : Top p loose mean mg mb g) (hfm : FnAt fm g) (hw1 : 1 ≤ wv) (hw5 : wv ≤ 5) (hwn : wn = wv.toNat) (hmul : MulOk prog w g LR (2 ^ wn) wv fm) :
   ∀ n, MulTells prog w g LR wn wv least fm n
  | 0 => fun _ _ _ _ _ _ _ _ _ _ _ _ _ _ _ _ _ _ _ _ _ _ h _ => absurd h (Nat.not_lt_zero _)
  | n + 1 => mul_step X T hfm hw1 hw5 hwn hmul n (mul_all X T hfm hw1 hw5 hwn hmul n)
end Mine
end
section
open PySem PySem.W PyProof.Rows PySem.Calls
namespace Mine

def SqrPost (LR : Led → List Int → Prop) (l : List Int) (s : Shared) (B z : Int) (r : Value) (h' : Heap) (lg' : Led) : Prop := LR lg' l ∧ FreshO s.heap h' lg' r B z

def SqrOk (prog : Program) (w : World) (g : Heap) (LR : Led → List Int → Prop) (B wv : Int) (fm : Addr) : Prop :=
  ∀ (dp un : Nat) (fr : Option (List Env)) (gd : Option (List Code)) (s : Shared) (lg : Led) (l : List Int) (va : Value) (x : Int) (tw : Tok),
    dp < 880 → g.StaysIn s.heap → (∀ p ∈ lg, g.get? p.1 = none) → LogIn s.heap lg → LR lg l → LDo s.heap lg va B x → x < B ^ 10 → l.length < 1000000 →
    CallM prog w (AR dp un fr gd) fm [va, .int wv tw] s lg (SqrPost LR (l ++ [x]) s B (x * x))

def SqrTells (prog : Program) (w : World) (g : Heap) (LR : Led → List Int → Prop) (wn : Nat) (wv : Int) (least : Int) (fm : Addr) (n : Nat) : Prop :=
  ∀ (dp un : Nat) (fr : Option (List Env)) (gd : Option (List Code)) (s : Shared) (lg : Led) (l : List Int) (va : Value) (x : Int) (tw tl : Tok),
    dp + 2 * n < 850 → g.StaysIn s.heap → (∀ p ∈ lg, g.get? p.1 = none) → LogIn s.heap lg → LR lg l → LDo s.heap lg va (2 ^ wn) x → sz wn x ≤ 10 → sz wn x < n → l.length + (sqrsF wn least n x).length ≤ 1000000 →
    CallM prog w (AR dp un fr gd) 123 [va, .int wv tw, .int least tl, .ref fm] s lg (SqrPost LR (l ++ sqrsF wn least n x) s (2 ^ wn) (x * x))

theorem FnAt.keeps2 {q : Addr} {g h : Heap} (x : FnAt q g) (k : ∀ b o, g.get? b = some o → h.get? b = some o) : FnAt q h := let ⟨a, b, c, d, e⟩ := x; ⟨a, b, c, d, k _ _ e⟩

theorem sqr_step {prog : Program} {w : World} {p : Program} {loose : List Str} {mean : ExcName → Option Value} {mg mb : Str → Option Value}
   {g : Heap} {LR : Led → List Int → Prop} {wn : Nat} {wv least : Int} {fm : Addr}
   (X : (hd.heap_39 w.params).In g) (T : Top p loose mean mg mb g) (hfm : FnAt fm g) (hw1 : 1 ≤ wv) (hw5 : wv ≤ 5) (hwn : wn = wv.toNat) (hsqr : SqrOk prog w g LR (2 ^ wn) wv fm)
   (n : Nat) (ih : SqrTells prog w g LR wn wv least fm n) : SqrTells prog w g LR wn wv least fm (n + 1) := by
  intro dp un fr gd s lg l va x tw tl hdp hg hgl hlg hLR hA hsx hsz hlen
  intro R hR
  obtain ⟨hdp1, hdp2⟩ := upDp hdp
  have hB : (2 : Int) ^ wn = 2 ^ wv.toNat := by rw [hwn]
  have hB2 : (2 : Int) ≤ 2 ^ wn := by
    have := pow_mono (show (1 : Int) ≤ 2 by omega) (show 1 ≤ wn by omega)
    omega
  refine' enterM [(Str.ofString "a", va), (Str.ofString "w", .int wv tw), (Str.ofString "least", .int least tl), (Str.ofString "sqr", .ref fm)] X T hg hgl hlg ?k6 ?k7 ?k8 ?k9 ?kB ?_ ?c2 ?c3 ?c4 ?c5
  case k6 => k_is
  case k7 => k_is
  case k8 => exact Nat.lt_trans (Nat.lt_succ_self dp) (Nat.lt_trans hdp1 (by decide))
  case k9 => exact BindsTo.of_eq rfl
  case kB => exact locs rfl
  case c2 => exact rfl
  case c3 => exact rfl
  case c4 => exact rfl
  case c5 => decide
  intro L h₁ tk h0 he0 hg0 X0 T0 F N hs1
  have dA := hA.hide
  rw [← he0] at dA
  obtain ⟨ra, vs, ns, rfl, hl, hi, hx, hn⟩ := id dA
  have e1 := sz_len (by omega) hx
  have x0 := hx.nonneg (by omega)
  have B1 : (1 : Int) ≤ 2 ^ wn := by omega
  have hxl := lt_of_sz (show 1 ≤ wn by omega) x0 hsx
  show wpAny _ _ _ _ _ _
  k_fold
  k_with_none
  k_with "pyIter ref" => refine stop_of ?_
  k_with "call ref" => refine stop_of ?_
  k_steps
  · rename Fr _ _ _ _ => F'
    rename News _ _ _ _ => N'
    rename ((ns.length : Int) < _) => hlt
    refine callWith_F (q := fm) (FnAt.keeps2 hfm fun b o e => F'.keep _ _ (hg0 _ _ e)) ?_
    k_steps
    · exact FnAt.keeps2 hfm fun b o e => F'.keep _ _ (hg0 _ _ e)
    · show wpAny _ _ _ _ _ _
      have hl1 : (sqrsF wn least (n + 1) x).length = 1 := by rw [sqrsF, if_pos (by split at hlt <;> omega)]; rfl
      refine callMT (news := []) (hsqr _ _ _ _ _ lg l _ x _ (up880 hdp1) (fun b o e => F'.keep _ _ (hg0 _ _ e)) hgl (logOf N' fun p hp => hp) hLR (dA.off F' N') hxl (by omega)) he0 F' N' (fun _ h => nomatch h) (Wider.refl lg) fun r h' tk' lg1 k1 k2 k3 w1 hpost => ?_
      have hLR1 := hpost.1
      refine hR _ _ _ lg1 k1 k2 k3 w1 ⟨?_, hpost.2⟩
      rw [sqrsF, if_pos (by split at hlt <;> omega)]
      exact hLR1
  · show wpAny _ _ _ _ _ _
    rename Fr _ _ _ _ => F'
    rename News _ _ _ _ => N'
    rename (¬ (ns.length : Int) < _) => hge
    have hge2 : 2 ≤ ns.length := by split at hge <;> omega
    have hsp : ((ns.length : Int) + 1).fdiv 2 = (((sz wn x + 1) / 2 : Nat) : Int) := by rw [Int.fdiv_eq_ediv_of_nonneg _ (by omega), e1]; omega
    have hv := halves (show 1 ≤ wn by omega) x0 (by omega)
    rw [hsp] at F'
    rw [hsp]
    have hk : (sz wn x + 1) / 2 < sz wn x := by omega
    have hk1 : (sz wn x + 1) / 2 ≤ 10 := by omega
    have hPr : sqrsF wn least (n + 1) x = sqrsF wn least n (x % (2 ^ wn) ^ ((sz wn x + 1) / 2)) ++ sqrsF wn least n (x / (2 ^ wn) ^ ((sz wn x + 1) / 2)) ++ sqrsF wn least n ((x % (2 ^ wn) ^ ((sz wn x + 1) / 2) - x / (2 ^ wn) ^ ((sz wn x + 1) / 2)).natAbs : Int) := by
      rw [sqrsF, if_neg (by split at hge <;> omega)]
    rw [hPr] at hlen
    simp only [List.length_append] at hlen
    generalize (sz wn x + 1) / 2 = k at hsp hv F' hk hk1 hPr hlen ⊢
    refine callS (lg := lg) (split_spec (up890 hdp1) (X0.keeps F'.keep) (T0.keeps F'.keep) (dA.keeps F'.keep) hB2 (by omega) (by omega)) F' N' (fun p hp => hp) fun a1 n1 vs1 ns1 a2 n2 vs2 ns2 t1 h' tk' F3 N3 i1 g1 len1 o1 i2 g2 len2 o2 => ?_
    clear F' N'
    rw [Int.toNat_natCast] at g1 g2
    dsimp only
    k_steps
    show wpAny _ _ _ _ _ _
    rename Fr _ _ _ _ => F'
    rename News _ _ _ _ => N'
    have hxe : x = x % (2 ^ wn) ^ k + (2 ^ wn) ^ k * (x / (2 ^ wn) ^ k) := by have := Int.mul_ediv_add_emod x ((2 ^ wn) ^ k); omega
    have bx := sz_lt_self (show 1 ≤ wn by omega) x0
    have zs : ∀ {a : Nat}, a ≤ k → a ≤ 10 := fun h => Nat.le_trans h hk1
    have zn : ∀ {a : Nat}, a ≤ k → a < n := fun h1 => Nat.lt_of_lt_of_le (Nat.lt_of_le_of_lt h1 hk) (Nat.le_of_lt_succ hsz)
    generalize x % (2 ^ wn) ^ k = XL, x / (2 ^ wn) ^ k = XH at hxe hv hPr hlen g1 g2
    have N1 : News h0 L _ ([(a2, W.listOf vs2.toArray n2), (a1, W.listOf vs1.toArray n1)] ++ lg) := newsSub N' (by kst_inAny)
    clear N'
    refine callM (ih _ _ _ _ _ lg l _ XL _ _ hdp2 (fun b o e => F'.keep _ _ (hg0 _ _ e)) hgl (logOf N1 fun p hp => List.mem_append_right _ hp) hLR (ldoNews N1 (by k_mem) o1 i1 g1 len1) (zs hv.1) (zn hv.1) (by omega)) F' N1 (all2 o2 o1) fun a5 n5 vs5 ns5 h' tk' lg1 hLR1 w1 F2 N2 i5 g5 len5 o5 _ oo => ?_
    clear F' N1 o1
    replace o2 := oo _ (.head _)
    have o1 := oo _ (.tail _ (.head _))
    clear oo
    dsimp only
    k_steps
    show wpAny _ _ _ _ _ _
    rename Fr _ _ _ _ => F'
    rename News _ _ _ _ => N'
    have N1 : News h0 L _ ([(a5, W.listOf vs5.toArray n5), (a2, W.listOf vs2.toArray n2), (a1, W.listOf vs1.toArray n1)] ++ lg1) := N'
    clear N'
    have sub1 : ∀ p ∈ lg1, p ∈ [(a5, W.listOf vs5.toArray n5), (a2, W.listOf vs2.toArray n2), (a1, W.listOf vs1.toArray n1)] ++ lg1 := fun p hp => List.mem_append_right _ hp
    refine callM (ih _ _ _ _ _ lg1 _ _ XH _ _ hdp2 (fun b o e => F'.keep _ _ (hg0 _ _ e)) (glOf hg0 N1 sub1) (logOf N1 sub1) hLR1 (ldoNews N1 (by k_mem) o2 i2 g2 len2) (zs hv.2.1) (zn hv.2.1) (by simp only [List.length_append]; omega)) F' N1 (all3 o5 o2 o1) fun a6 n6 vs6 ns6 h' tk' lg2 hLR2 w2 F2 N2 i6 g6 len6 o6 _ oo => ?_
    clear F' N1 o1 o2 o5
    have o5 := oo _ (.head _)
    clear oo
    dsimp only
    k_steps
    show wpAny _ _ _ _ _ _
    rename Fr _ _ _ _ => F'
    rename News _ _ _ _ => N'
    refine callB (lg := lg2) (diff_spec (up880 hdp1) (X0.keeps F'.keep) (T0.keeps F'.keep) (ldNews N' (by k_mem) i1 g1 len1) (ldNews N' (by k_mem) i2 g2 len2) hw1 hw5 hB hB2) F' N' (fun p hp => .tail _ (List.mem_append_right _ hp)) fun a7 n7 vs7 ns7 t3 h' tk' F3 N3 i7 g7 len7 o7 => ?_
    clear F' N'
    dsimp only
    k_steps
    show wpAny _ _ _ _ _ _
    rename Fr _ _ _ _ => F'
    rename News _ _ _ _ => N'
    have N1 : News h0 L _ ([(a7, W.listOf vs7.toArray n7), (a6, W.listOf vs6.toArray n6), (a5, W.listOf vs5.toArray n5)] ++ lg2) := newsSub N' (by
      intro p hp
      rcases List.mem_append.mp hp with hp | hp
      · simp only [List.mem_cons, List.not_mem_nil, or_false] at hp
        rcases hp with rfl | rfl | rfl <;> simp
      · simp [hp])
    clear N'
    have sub2 : ∀ p ∈ lg2, p ∈ [(a7, W.listOf vs7.toArray n7), (a6, W.listOf vs6.toArray n6), (a5, W.listOf vs5.toArray n5)] ++ lg2 := fun p hp => List.mem_append_right _ hp
    refine callM (ih _ _ _ _ _ lg2 _ _ ((XL - XH).natAbs : Int) _ _ hdp2 (fun b o e => F'.keep _ _ (hg0 _ _ e)) (glOf hg0 N1 sub2) (logOf N1 sub2) hLR2 (ldoNews N1 (by k_mem) o7 i7 g7 len7) (zs hv.2.2) (zn hv.2.2) (by simp only [List.length_append]; omega)) F' N1 (all3 o7 o6 o5) fun a9 n9 vs9 ns9 h' tk' lg3 hLR3 w3 F2 N2 i9 g9 len9 o9 _ oo => ?_
    clear F' N1 o5 o6 o7 oo
    dsimp only
    k_steps
    show wpAny _ _ _ _ _ _
    rename Fr _ _ _ _ => F'
    rename News _ _ _ _ => N'
    have lx : ∀ {a : Int}, sz wn a ≤ k → 0 ≤ a → a < (2 ^ wn) ^ 10 := fun q q0 => Int.lt_of_lt_of_le (lt_of_sz (by omega) q0 q) (pow_mono B1 hk1)
    have q1 := g1.nonneg B1
    have q2 := g2.nonneg B1
    have m1 := mul_lt_pow B1 q1 q1 (lx hv.1 q1) (lx hv.1 q1)
    have m2 := mul_lt_pow B1 q2 q2 (lx hv.2.1 q2) (lx hv.2.1 q2)
    have m3 := mul_lt_pow B1 (show (0 : Int) ≤ ((XL - XH).natAbs : Int) by omega) (show (0 : Int) ≤ ((XL - XH).natAbs : Int) by omega) (lx hv.2.2 (by omega)) (lx hv.2.2 (by omega))
    have hle := kara_le (xl := XL) (xh := XH) (yl := XL) (yh := XH) q1 q2 q1 q2 (by simp)
    have hka := kara (xl := XL) (xh := XH) (yl := XL) (yh := XH) (S := (2 ^ wn) ^ k)
    simp only [bne_self_eq_false, Bool.false_eq_true, if_false] at hka
    have m4 := mul_lt_pow B1 x0 x0 (Int.lt_of_lt_of_le bx (pow_mono B1 hsx)) (Int.lt_of_lt_of_le bx (pow_mono B1 hsx))
    refine callD (mid_spec (up880 hdp1) (X0.keeps F'.keep) (T0.keeps F'.keep) (ldNews N' (by k_mem) i5 g5 len5) (ldNews N' (by k_mem) i6 g6 len6) (ldNews N' (by k_mem) i9 g9 len9) hw1 hw5 hB hB2 (fun _ => hle) (three_lt hB2 m1.2 m2.2 m3.2)) F' N' fun a10 n10 vs10 ns10 h' tk' F3 N3 i10 g10 len10 _ => ?_
    clear F' N'
    dsimp only
    k_steps
    show wpAny _ _ _ _ _ _
    rename Fr _ _ _ _ => F'
    rename News _ _ _ _ => N'
    have e2k : (2 * (k : Int)).toNat = k + k := by omega
    simp only [Bool.false_eq_true, if_false] at g10
    have hval : XL * XL + (2 ^ wn) ^ ((k : Int).toNat) * (XL * XL + XH * XH - ((XL - XH).natAbs : Int) * ((XL - XH).natAbs : Int)) + (2 ^ wn) ^ ((2 * (k : Int)).toNat) * (XH * XH) = x * x := by
      rw [e2k, Int.pow_add, Int.toNat_natCast, hka, ← hxe]
    have hlim : x * x < (2 ^ wn) ^ 200 := Int.lt_of_lt_of_le m4.2 (pow_mono B1 (by decide))
    refine callMR (put_spec (up880 hdp1) (X0.keeps F'.keep) (T0.keeps F'.keep) (ldNews N' (by k_mem) i5 g5 len5) (ldNews N' (by k_mem) i10 g10 len10) (ldNews N' (by k_mem) i6 g6 len6) hw1 hw5 hB hB2 (by omega) (by omega) (by rw [hval]; exact hlim)) hval he0 F' N' (lg' := lg3) (fun p hp => by kst_mem) ((w1.trans w2).trans w3) fun r h' tk' k1 k2 k3 hfo => ?_
    refine hR _ _ _ lg3 k1 k2 k3 ((w1.trans w2).trans w3) ⟨?_, hfo⟩
    rw [hPr]
    simpa only [List.append_assoc] using hLR3

theorem sqr_all {prog : Program} {w : World} {p : Program} {loose : List Str} {mean : ExcName → Option Value} {mg mb : Str → Option Value}
   {g : Heap} {LR : Led → List Int → Prop} {wn : Nat} {wv least : Int} {fm : Addr}
   (X : (hd.heap_39 w.params).In g) (T : Top p loose mean mg mb g) (hfm : FnAt fm g) (hw1 : 1 ≤ wv) (hw5 : wv ≤ 5) (hwn : wn = wv.toNat) (hsqr : SqrOk prog w g LR (2 ^ wn) wv fm) :
   ∀ n, SqrTells prog w g LR wn wv least fm n
  | 0 => fun _ _ _ _ _ _ _ _ _ _ _ _ _ _ _ _ _ _ h _ => absurd h (Nat.not_lt_zero _)
  | n + 1 => sqr_step X T hfm hw1 hw5 hwn hsqr n (sqr_all X T hfm hw1 hw5 hwn hsqr n)
end Mine
end
section
open PySem PySem.W PyProof.Rows PySem.Calls
namespace Mine
def LimI (B x n : Int) (f : List Int) : Prop := Dig B f ∧ x = val B f + B ^ f.length * n ∧ 0 ≤ n ∧ (n = 0 → f.getLast? ≠ some 0) ∧ f.length ≤ 60
theorem LimI.start {B x : Int} (h : 0 ≤ x) : LimI B x x [] := ⟨.nil, by simp [val], h, by simp, by simp⟩
theorem LimI.step {B x n : Int} (hB : 2 ≤ B) {f : List Int} (h : LimI B x n f) (hn : 0 < n) (hx : x < B ^ 60) : LimI B x (n / B) (f ++ [n % B]) := by
  obtain ⟨h1, h2, h3, h4, h5⟩ := h
  have e := Int.mul_ediv_add_emod n B
  have d0 := Int.emod_nonneg n (show B ≠ 0 by omega)
  have d1 := Int.emod_lt_of_pos n (show 0 < B by omega)
  have b := val_bounds (by omega) h1
  have p := pow_pos' (show 1 ≤ B by omega) f.length
  refine ⟨Dig.append.mpr ⟨h1, Dig.cons.mpr ⟨⟨d0, d1⟩, .nil⟩⟩, ?_, Int.ediv_nonneg (by omega) (by omega), ?_, ?_⟩
  · rw [val_append, List.length_append, List.length_cons, List.length_nil, Nat.zero_add, Int.pow_succ]
    simp only [val, Int.mul_zero, Int.add_zero]
    have : B ^ f.length * n = B ^ f.length * (B * (n / B)) + B ^ f.length * (n % B) := by rw [← Int.mul_add, e]
    rw [Int.mul_assoc]
    omega
  · intro hz
    rw [hz] at e
    simp
    omega
  · rw [List.length_append, List.length_cons, List.length_nil]
    have : B ^ f.length * 1 ≤ B ^ f.length * n := Int.mul_le_mul_of_nonneg_left (by omega) (by omega)
    have := pow_lt_inj hB (show B ^ f.length < B ^ 60 by omega)
    omega
theorem LimI.finish {B x n : Int} {f : List Int} (h : LimI B x n f) (hn : ¬ 0 < n) : Dg B x f ∧ f.length ≤ 60 := by
  obtain ⟨h1, h2, h3, h4, h5⟩ := h
  have : n = 0 := by omega
  subst this
  exact ⟨⟨h1, h4 rfl, by omega⟩, h5⟩

theorem lim_turn {B x n wv : Int} (hB2 : 2 ≤ B) (hB : B = 2 ^ wv.toNat) {f : List Int} (hx : x < B ^ 60) (h : LimI B x n f) (hn : 0 < n) : (f ++ [n.fmod (2 ^ wv.toNat)]).length ≤ 60 ∧ LimI B x (n.fdiv (2 ^ wv.toNat)) (f ++ [n.fmod (2 ^ wv.toNat)]) := by
  rw [← hB, Int.fdiv_eq_ediv_of_nonneg _ (by omega), Int.fmod_eq_emod_of_nonneg _ (by omega)]
  have := h.step hB2 hn hx
  exact ⟨this.2.2.2.2, this⟩
theorem lim_start {B x : Int} (hx0 : 0 ≤ x) : ([] : List Int).length ≤ 60 ∧ LimI B x x [] := ⟨by simp, LimI.start hx0⟩
theorem lim_less {B n wv : Int} (hB2 : 2 ≤ B) (hB : B = 2 ^ wv.toNat) (hn : 0 < n) : (n.fdiv (2 ^ wv.toNat)).toNat < n.toNat := by
  rw [← hB, Int.fdiv_eq_ediv_of_nonneg _ (by omega)]
  have : n / B < n := Int.ediv_lt_self_of_pos_of_ne_one hn (by omega)
  omega
theorem limbs_spec {prog : Program} {w : World} {dp un : Nat} {fr : Option (List Env)} {gd : Option (List Code)} {s : Shared} {p : Program} {loose : List Str} {mean : ExcName → Option Value} {mg mb : Str → Option Value}
   {B x wv : Int} {tw tx : Tok}
   (hdp : dp < 900) (X : (hd.heap_39 w.params).In s.heap) (T : Top p loose mean mg mb s.heap)
   (hw1 : 1 ≤ wv) (hw5 : wv ≤ 5) (hB : B = 2 ^ wv.toNat) (hB2 : 2 ≤ B) (hx0 : 0 ≤ x) (hx : x < B ^ 60) :
   CallR prog w (AR dp un fr gd) 137 [.int x tx, .int wv tw] s (fun r h' => FreshD s.heap h' r B x) := by
  intro R hR
  refine' enter [(Str.ofString "number", .int x tx), (Str.ofString "w", .int wv tw)] X T ?k6 ?k7 ?k8 ?k9 ?kB ?_ ?c2 ?c3 ?c4 ?c5
  case k6 => k_is
  case k7 => k_is
  case k8 => (show dp < 1000); omega
  case k9 => exact BindsTo.of_eq rfl
  case kB => exact locs rfl
  case c2 => exact rfl
  case c3 => exact rfl
  case c4 => exact rfl
  case c5 => decide
  intro L h₁ tk F N
  k_fold
  k_with_none
  k_with "exec While Compare cons nil" => refine stop_of ?_
  k_steps
  show wpAny _ _ _ _ _ _
  rename Fr _ _ _ _ => lF'
  rename News _ _ _ _ => lN'
  have hE : ∀ M A env, PassesOwn M A env (fun _ _ => False) := fun _ _ _ => PySem.PassesOwn.never
  with_unfolding_all refine' ksw_while (σ := Int × Nat × List Value × List Int × Nat) (fun c => [(_, W.listOf c.2.2.1.toArray c.2.2.2.2)]) (fun c => [(Str.ofString "number", Value.int c.1 c.2.1)]) (fun c => IntsAre c.2.2.1 c.2.2.2.1) [] (fun c => c.2.2.2.1.length ≤ 60 ∧ LimI B x c.1 c.2.2.2.1) (fun c => c.1.toNat) (_, _, [], [], 0) lF' ?kn ?kf ?kk ?kp ?_ ?hE
  case hE => exact hE _ _ _
  case kn => with_unfolding_all exact lN'
  case kf => exact .nil
  case kk => kst_all
  case kp => exact lim_start hx0
  clear lF' lN'
  k_with_none
  rintro ⟨n, tn, vf, nsf, nf⟩ u h tk hi ⟨hlen, hL⟩ F N
  dsimp only [kstB] at F N hi hL hlen
  k_fold
  have hlv := hi.length
  k_with "KswEnd" => refine stop_of ?_
  k_steps
  · rename Fr _ _ _ _ => F'
    rename News _ _ _ _ => N'
    simp only [List.push_toArray] at N'
    rename (0 < n) => hn
    exact ksw_end (_, _, _, _, _) F' N' (by kst_in) (ints_snoc hi) (by kst_all) (by ksw_same) (lim_turn hB2 hB hx hL hn) (lim_less hB2 hB hn)
  · have fin := hL.finish (by assumption)
    exact hR _ _ _ F.keep (freshD_of N (by k_mem) hi fin.1 (Nat.le_trans fin.2 (by decide)))
end Mine
end
section
open PySem PySem.W PyProof.Rows PySem.Calls
namespace Mine

theorem size_math {x wv : Int} (hw1 : 1 ≤ wv) : (((Builtin.Int.intBits x : Nat) : Int) + wv - 1).fdiv wv = (sz wv.toNat x : Int) := by
  have e : Builtin.Int.intBits x = bl x := rfl
  obtain ⟨n, rfl⟩ : ∃ n : Nat, wv = n := ⟨wv.toNat, by omega⟩
  rw [e, Int.fdiv_eq_ediv_of_nonneg _ (by omega), Int.toNat_natCast]
  unfold sz
  rw [Int.natCast_ediv]
  congr 1
  omega
theorem size_spec {prog : Program} {w : World} {dp un : Nat} {fr : Option (List Env)} {gd : Option (List Code)} {s : Shared} {p : Program} {loose : List Str} {mean : ExcName → Option Value} {mg mb : Str → Option Value}
   {x wv : Int} {tw tx : Tok}
   (hdp : dp < 900) (X : (hd.heap_39 w.params).In s.heap) (T : Top p loose mean mg mb s.heap)
   (hw1 : 1 ≤ wv) (hw5 : wv ≤ 5) (hx0 : 0 ≤ x) :
   CallR prog w (AR dp un fr gd) 149 [.int x tx, .int wv tw] s (fun r h' => ∃ t, r = .int (sz wv.toNat x) t) := by
  intro R hR
  refine' enter [(Str.ofString "number", .int x tx), (Str.ofString "w", .int wv tw)] X T ?k6 ?k7 ?k8 ?k9 ?kB ?_ ?c2 ?c3 ?c4 ?c5
  case k6 => k_is
  case k7 => k_is
  case k8 => (show dp < 1000); omega
  case k9 => exact BindsTo.of_eq rfl
  case kB => exact locs rfl
  case c2 => exact rfl
  case c3 => exact rfl
  case c4 => exact rfl
  case c5 => decide
  intro L h₁ tk F N
  k_fold
  k_with_none
  k_steps
  exact hR _ _ _ F.keep ⟨_, by rw [size_math hw1]⟩
end Mine
end
section
open PySem PySem.W PyProof.Rows PySem.Calls PySem.Spec PyProof.V LCg
namespace Mine

theorem enterC {prog : Program} {w : World} {A : Around} {s : Shared} {K : Frag} {p : Program} {loose : List Str} {mean : ExcName → Option Value} {mg mb : Str → Option Value}
    {R : Result → Shared → Prop} {name qual : Str} {params : Arguments} {body : List Stmt} {scope : Scope} {dV kV doc pm cdv ct oc : Value} {an od : Option Addr} {osl : Array (Option Value)} {f : Addr} {args : Args} (binds : List (Str × Value))
    (X : K.In s.heap) (T : Top p loose mean mg mb s.heap)
    (ho : K.lookup f = some ⟨oc, od, .func (fnOf name qual params body scope dV kV doc pm an cdv ct), osl⟩) (hcd : codeIn K cdv qual = true) (hroom : A.depth < recursionLimit)
    (hbind : BindsTo s (fnOf name qual params body scope dV kV doc pm an cdv ct) args binds)
    (hkind : (binds.all fun y => scope.names.lookup y.1 == some .local || scope.names.lookup y.1 == some .cell) = true)
    (hnd : ((cellsFrom 0 scope.names []).map (·.1)).Nodup)
    (h : ∀ L' h₁ tk' cells, Fr s.heap L' h₁ (bindL (envOfC qual scope L' f cdv).kindOf binds fun _ => none) → News s.heap L' h₁ cells →
      CellsAre (bindC (envOfC qual scope L' f cdv).kindOf binds fun _ => none) (cellsFrom (L' + 1) scope.names []) cells →
      wpAny (model prog w) (A.deeper (envOfC qual scope L' f cdv)) (execs body (envOfC qual scope L' f cdv))
        (fun fl s' => R (.ok (.ret (match fl with | .ret v => v | _ => .none))) s') (fun _ _ => False)
        { s with heap := h₁, toks := tk' })
    (hco : scope.isCoroutine = false) (hgen : scope.isGenerator = false) (hk : scope.kind = .function) : codeAny (model prog w) A (.call (.ref f) args) R s := by
  refine codeAny_call_function hroom (X _ _ ho) rfl hco hgen rfl (codeRec_of X hcd) (hbind _ _ _ _ ?_)
  refine wpAny_newFunctionEnv_cells hk (kindsX hkind _) fun env' he s' x => ?_
  subst he
  refine ⟨T.nolimit.keeps x.toInCall.keep, codeAny_func ?_⟩
  obtain ⟨h₁, tk, rfl, _⟩ := x.done
  have hk₁ := x.toInCall.keep
  obtain ⟨cells, NC, Y⟩ := Cl.news (h₀ := s.heap) (Nat.le_refl _) fun n c hm => ⟨x.cell n c (lookup_of_mem_nodup (cellsFrom_names scope.names 0 (s.heap.objs.size + 1) [] [] rfl ▸ hnd) hm), x.above n c hm⟩
  exact wpAny_mono (h s.heap.objs.size h₁ tk cells ⟨x.toInCall.ns, hk₁, Nat.le_refl _⟩ NC Y) (fun _ _ x => x) fun _ _ x => x.elim

/-- a comprehension over enumerate(list), its element leaves the heap alone -/
theorem comp_enum {prog : Program} {w : World} {A : Around} {E : Value → Shared → Prop} {s : Shared} {env : Env} {h₀ : Heap} {L l : Addr} {m : Str → Option Value} {news : List (Addr × Obj)} {vs : List Value}
    {elt iter : PySem.Expr} {a b : Str} {pa pb tp : Pos} {kk : Nat} {scope : Scope} {cl : List (Str × Addr)} {pos : Pos} {Q : Value → Shared → Prop} (f : Nat → Int)
    (hh : A.handled = none) (F : Fr h₀ L s.heap m) (N : News h₀ L s.heap news) (hl : s.heap.IsList l vs.toArray) (hsz : vs.length ≤ sizeLine)
    (hclos : closureFor scope env = pure cl) (hcell : ∀ y ∈ scope.names, y.2 ≠ .cell) (hkind : scope.kind = .function)
    (hnames : ∀ y ∈ scope.names, y.2 = .local → scope.names.lookup y.1 = some .local) (hxa : scope.names.lookup a = some .local) (hxb : scope.names.lookup b = some .local) (hab : ¬ a = b)
    (hs : ∀ x, foldedSetIterable iter env x = pure x)
    (hiter : wpAny (model prog w) A (eval iter env) (fun xv s₁ => ∃ h₁ tk₁ e it, xv = .ref e ∧ s₁ = { s with heap := h₁, toks := tk₁ } ∧ IsEnum h₁ e it 0 .none ∧ h₁.IsListIter it l 0 ∧ s.heap.StaysIn h₁ ∧ s.heap.get? e = none ∧ s.heap.get? it = none ∧ e ≠ it) E s)
    (helt : ∀ (i : Nat) (v : Value) (t : Tok) (C : Addr) (oC : Obj) (m₂ : Str → Option Value) (h : Heap) (tk : Nat) (E' : Value → Shared → Prop), vs[i]? = some v → NsObj oC m₂ → m₂ a = some (.int i t) → m₂ b = some v → Fr h₀ L h m → News h₀ L h ((C, oC) :: news) →
      wpAny (model prog w) A (eval elt (compEnvC scope cl C env)) (fun y s₂ => (∃ t, y = .int (f i) t) ∧ ∃ tk', s₂ = { s with heap := h, toks := tk' }) E' { s with heap := h, toks := tk })
    (h : ∀ D h' tk ys, Fr h₀ L h' m → News h₀ L h' ((D, lst ys) :: news) → IntsAre ys ((List.range vs.length).map f) → Q (.ref D) { s with heap := h', toks := tk }) :
    wpAny (model prog w) A (eval (.ListComp elt [⟨.Tuple [.Name a pa, .Name b pb] kk tp, iter, [], 0⟩] scope pos) env) Q E s := by
  rw [eval_ListComp]
  refine wpAny_comprehension_free (use := none) rfl hs hclos hkind hnames (wpAny_mono hiter (fun xv s₁ h₁ => ?_) fun _ _ e => e)
  obtain ⟨H, tk₁, e, it, rfl, rfl, hen, hit, hst, hef, hif, hei⟩ := h₁
  refine wpAny_pyIter_enum hen ?_
  refine wpAny_newObj_type (wpAny_newFunctionEnv hcell (by intro y hy; simp at hy) (fun h₁ hns₁ hsb₁ => ?_) hkind)
  dsimp only at hns₁ hsb₁ ⊢
  generalize hH2 : H.push { cls := .type "list", dict := none, data := .seq ([] : List Value).toArray } = H2 at hns₁ hsb₁ ⊢
  have hC : H2.objs.size = H.objs.size + 1 := by rw [← hH2, Heap.size_push]
  have below : ∀ b, b < H.objs.size → b ≠ H2.objs.size ∧ b ≠ H.objs.size := fun b hb => ⟨by rw [hC]; exact Nat.ne_of_lt (Nat.lt_succ_of_lt hb), Nat.ne_of_lt hb⟩
  have old : ∀ b o, H.get? b = some o → h₁.get? b = some o := fun b o e => hsb₁.extBut b o (below b (Heap.lt_size e)).1 (Heap.get?_push_of_some _ (hH2 ▸ Heap.get?_push_of_some _ e))
  have hDC : H.objs.size ≠ H2.objs.size := by rw [hC]; exact Nat.ne_of_lt (Nat.lt_succ_self _)
  have hacc : h₁.get? H.objs.size = some (lst []) := hsb₁.extBut _ _ hDC (Heap.get?_push_of_some _ (hH2 ▸ Heap.get?_push_size _ rfl))
  have fresh : ∀ b, H.objs.size ≤ b → s.heap.get? b = none := fun b hb => by
    cases q : s.heap.get? b with
    | none => rfl
    | some o' => exact absurd (Heap.lt_size (hst _ _ q)) (Nat.not_lt.mpr hb)
  have hDf := fresh _ (Nat.le_refl _)
  have hCf := fresh H2.objs.size (by rw [hC]; exact Nat.le_succ _)
  have heC := (below e (Heap.lt_size hen)).1
  have heD := (below e (Heap.lt_size hen)).2
  have hiC : it ≠ H2.objs.size := by obtain ⟨o, q, _⟩ := id hit; exact (below it (Heap.lt_size q)).1
  have hiD : it ≠ H.objs.size := by obtain ⟨o, q, _⟩ := id hit; exact (below it (Heap.lt_size q)).2
  generalize H.objs.size = D at *
  generalize H2.objs.size = C at *
  clear hH2 hC below fresh
  have ne : ∀ {b o x}, s.heap.get? b = some o → s.heap.get? x = none → b ≠ x := fun p q c => by rw [c, q] at p; cases p
  obtain ⟨ol, hol, hol2⟩ := hl
  have fin : ∀ h' tk ys, (∀ b o, s.heap.get? b = some o → h'.get? b = some o) → h'.get? D = some (lst ys) → IntsAre ys ((List.range vs.length).map f) → Q (.ref D) { s with heap := h', toks := tk } := fun h' tk ys k hD hi => by
    obtain ⟨oL, es, ep, hL, _⟩ := F.ns
    refine h D h' tk ys (F.keeps k) (fun p hp => ?_) hi
    rcases List.mem_cons.mp hp with rfl | hp
    · exact ⟨hD, (ne hL hDf).symm, freshUp F.keep hDf⟩
    · exact ⟨k _ _ (N p hp).1, (N p hp).2⟩
  have loop : ∀ s₃ : Shared, s₃ = { s with heap := h₁, toks := tk₁ + ([] : List (Str × Value)).length } →
      codeAny (model prog w) A (.compLoop (.ListComp elt [⟨.Tuple [.Name a pa, .Name b pb] kk tp, iter, [], 0⟩] scope pos) 0 (.ref e) (.ref D) (compEnvC scope cl C env)) (compPost (model prog w) A E none Q (.ref D) C) s₃ := by
    rintro s₃ rfl
    refine kcp_loop
      (fun k s' => ∃ h' tk i ys m' old, s' = { s with heap := h', toks := tk } ∧ i ≤ vs.length ∧ k = vs.length + 1 - i ∧ IsEnum h' e it ((i : Nat) : Int) old ∧ h'.IsListIter it l i ∧ h'.Ns C m' ∧ h'.get? D = some (lst ys) ∧ IntsAre ys ((List.range i).map f) ∧
        ∀ b o, s.heap.get? b = some o → h'.get? b = some o) ?_ (vs.length + 1)
      ⟨h₁, _, 0, [], _, .none, rfl, Nat.zero_le _, rfl, old _ _ hen, hit.at fun o q => old _ _ q, hns₁, hacc, .nil, fun b o q => old _ _ (hst _ _ q)⟩
    rintro k s' ⟨h', tk, i, ys, m', oldv, rfl, hi, rfl, hen', hit', hn', hD', hys, hk⟩
    by_cases hlt : i < vs.length
    · have hv : vs.toArray[i]? = some vs[i] := by simp [hlt]
      refine wpAny_pyNext_enum_item hen' hit' ⟨ol, hk _ _ hol, hol2⟩ hv hei fun h₂ ho₂ hit₂ hT₂ hsz₂ hk₂ => ?_
      refine wpAny_letOwnedTupleGo_enum ho₂ fun h₃ hen₃ hs₃ => ?_
      have hTe : h'.objs.size ≠ e := Nat.ne_of_gt (Heap.lt_size hen')
      have up₃ : ∀ c o, c ≠ e → c ≠ it → h'.get? c = some o → h₃.get? c = some o := fun c o h1 h2 q => hs₃.extBut c o h1 (hk₂ c o h1 h2 q)
      refine kcp_assign (env := compEnvC scope cl C env) (m := m') hh ⟨_, (hs₃.2 _ hTe).trans hT₂, rfl, _, rfl⟩ (lookup_relabel_local hxa) (lookup_relabel_local hxb) (by simp [compEnvC, relabel, hkind]) (hn'.at' fun o q => up₃ _ o (Ne.symm heC) (Ne.symm hiC) q) fun h₄ tk₄ hn₄ hs₄ => ?_
      have up : ∀ c o, c ≠ e → c ≠ it → c ≠ C → h'.get? c = some o → h₄.get? c = some o := fun c o h1 h2 h3 q => hs₄ c o h3 (up₃ c o h1 h2 q)
      have hen₄ : IsEnum h₄ e it ((i + 1 : Nat) : Int) vs[i] := by
        have : IsEnum h₄ e it ((i : Int) + 1) vs[i] := hs₄ e _ heC hen₃
        rwa [show (((i + 1 : Nat)) : Int) = (i : Int) + 1 by omega]
      have hit₄ : h₄.IsListIter it l (i + 1) := ((hit₂.extBut hs₃.extBut (Ne.symm hei))).at fun o q => hs₄ it o hiC q
      obtain ⟨oC, heC', hoC⟩ := ns_obj hn₄
      have k₄ : ∀ b o, s.heap.get? b = some o → h₄.get? b = some o := fun b o q => up b o (ne q hef) (ne q hif) (ne q hCf) (hk b o q)
      have hCL : C ≠ L := by
        obtain ⟨oL, es, ep, hL, _⟩ := F.ns
        exact (ne hL hCf).symm
      refine wpAny_mono (helt i _ _ C oC _ h₄ tk₄ _ (List.getElem?_eq_getElem hlt) hoC ((if_neg hab).trans (if_pos rfl)) (if_pos rfl) (F.keeps k₄) (fun p hp => ?_)) (fun y s₅ h₅ => ?_) fun _ _ x => x
      · rcases List.mem_cons.mp hp with rfl | hp
        · exact ⟨heC', hCL, freshUp F.keep hCf⟩
        · exact ⟨k₄ _ _ (N p hp).1, (N p hp).2⟩
      · obtain ⟨⟨t, rfl⟩, tk₅, rfl⟩ := h₅
        have hlen : ys.length = i := by have := hys.length; simpa using this
        have hD₄ : h₄.get? D = some (lst ys) := up D _ (Ne.symm heD) (Ne.symm hiD) hDC hD'
        refine append_at (hsz := by show ys.toArray.size ≤ sizeLine; rw [List.size_toArray, hlen]; omega) hD₄ fun h₆ hs₆ hD₆ => ?_
        refine ⟨vs.length + 1 - (i + 1), by omega, h₆, tk₅, i + 1, ys ++ [.int (f i) t], _, _, rfl, hlt, rfl, hs₆.extBut _ _ heD hen₄, hit₄.extBut hs₆.extBut hiD, hn₄.sameBut hs₆ (Ne.symm hDC), hD₆.trans (congrArg some (lst_snoc ys _)), ?_, fun b o q => hs₆.extBut _ _ (ne q hDf) (k₄ b o q)⟩
        rw [List.range_succ, List.map_append]
        exact ints_snoc hys
    · have hin : i = vs.length := by omega
      subst hin
      refine wpAny_pyNext_enum_end hh hen' hit' ⟨ol, hk _ _ hol, hol2⟩ (by simp) fun h₂ hx₂ => ?_
      refine ⟨_, hn'.extBut hx₂ (Ne.symm hiC), fun h'' hs'' => fin h'' _ ys (fun b o q => hs''.extBut _ _ (ne q hCf) (hx₂ _ _ (ne q hif) (hk b o q))) (hs''.extBut _ _ hDC (hx₂ _ _ (Ne.symm hiD) hD')) hys⟩
  exact codeAny_compStart_list (loop _ rfl) (wpAny_pyIter_enum (old _ _ hen) (loop _ rfl))
end Mine
end
section
open PySem PySem.W PyProof.Rows PySem.Calls
namespace Mine

theorem whole_math {vs : List Value} {ns : List Int} {B x wv : Int} (hvl : vs.length = ns.length) (hB : B = 2 ^ wv.toNat) (hw1 : 1 ≤ wv) (hv : val B ns = x) :
    (List.map (fun (i : Nat) => ns.getD i 0 * 2 ^ (wv * (i : Int)).toNat) (List.range vs.length)).sum = x := by
  have key : ∀ n, (List.map (fun (i : Nat) => ns.getD i 0 * 2 ^ (wv * (i : Int)).toNat) (List.range n)).sum = val B (ns.take n) := by
    intro n
    induction n with
    | zero => simp [val]
    | succ n ih =>
      have e : (wv * (n : Int)).toNat = wv.toNat * n := by
        obtain ⟨k, rfl⟩ : ∃ k : Nat, wv = k := ⟨wv.toNat, by omega⟩
        rw [← Int.natCast_mul, Int.toNat_natCast, Int.toNat_natCast]
      rw [List.range_succ, List.map_append, List.sum_append, ih, val_take_succ, hB, ← Int.pow_mul, ← e]
      simp [Int.mul_comm]
  rw [key, List.take_of_length_le (by omega), hv]
theorem whole_spec {prog : Program} {w : World} {dp un : Nat} {fr : Option (List Env)} {gd : Option (List Code)} {s : Shared} {p : Program} {loose : List Str} {mean : ExcName → Option Value} {mg mb : Str → Option Value}
   {va : Value} {B x wv : Int} {tw : Tok}
   (hdp : dp < 900) (X : (hd.heap_39 w.params).In s.heap) (T : Top p loose mean mg mb s.heap) (hA : DL s.heap va B x)
   (hw1 : 1 ≤ wv) (hw5 : wv ≤ 5) (hB : B = 2 ^ wv.toNat) :
   CallR prog w (AR dp un fr gd) 142 [va, .int wv tw] s (fun r h' => ∃ t, r = .int x t) := by
  intro R hR
  obtain ⟨ra, vs, ns, rfl, hl, hi, hx, hv, hn⟩ := hA
  refine' enterC [(Str.ofString "limbs", .ref ra), (Str.ofString "w", .int wv tw)] X T ?k6 ?k7 ?k8 ?k9 ?kB ?kD ?_ ?c2 ?c3 ?c4
  case k6 => k_is
  case k7 => k_is
  case k8 => (show dp < 1000); omega
  case k9 => exact BindsTo.of_eq rfl
  case kB => rfl
  case kD => decide
  case c2 => exact rfl
  case c3 => exact rfl
  case c4 => exact rfl
  intro L h₁ tk cells F N Y
  obtain ⟨oc, rfl, hoc⟩ := CellsAre.one Y
  clear Y
  k_fold
  k_with_none
  k_with "spliced" => refine stop_of ?_
  k_steps
  show wpAny _ _ _ _ _ _
  k_with_none
  have hvl := hi.length
  refine spliced_more ?_
  refine comp_enum (news := [(L + 1, oc)]) (vs := vs) (l := ra) (fun i => ns.getD i 0 * 2 ^ (wv * i).toNat) (by rfl) F N (hl.at fun o q => F.keep _ _ q) (by size_fits) (by with_unfolding_all rfl) (by decide) (by rfl) (by decide) (by rfl) (by rfl) (by decide) (by intro _; rfl) ?_ ?_ ?_
  · k_with "call type:enumerate" => refine stop_of ?_
    k_steps
    show wpAny _ _ _ _ _ _
    k_with_none
    refine call_enumerate_list (hl.at fun o q => F.keep _ _ q) fun h' he hit hz hst => ?_
    have fr : ∀ b, h₁.objs.size ≤ b → h₁.get? b = none := fun b hb => by
      cases q : h₁.get? b with
      | none => rfl
      | some o' => exact absurd (Heap.lt_size q) (Nat.not_lt.mpr hb)
    exact ⟨h', _, _, _, rfl, rfl, he, hit, hst, fr _ (Nat.le_succ _), fr _ (Nat.le_refl _), Nat.succ_ne_self _⟩
  · intro i v t C oC m₂ h tk E' hv9 hC ha hb F N
    obtain ⟨tv, rfl⟩ := hi.int_at i v hv9
    k_fold
    have hlt : i < vs.length := (List.getElem?_eq_some_iff.mp hv9).1
    have hm0 : 0 ≤ wv * (i : Int) := Int.mul_nonneg (by omega) (by omega)
    have hm1 : wv * (i : Int) ≤ 5 * 300 := Int.mul_le_mul (by omega) (by omega) (by omega) (by omega)
    have hd := hx.get (show 0 < B by rw [hB]; exact Int.pow_pos (by omega)) i
    have hB5 : B ≤ 2 ^ 5 := by rw [hB]; exact pow_mono (by omega) (by omega)
    have hd2 : ns.getD i 0 < 32 := by omega
    k_with "binaryOp Mult int int" => refine mul_int ?_ (IntMulOk.of_left (intBits_le_64 (by omega) (by omega)))
    k_steps
  · intro D h' tk ys F' N' hI
    clear F N
    k_fold
    k_steps
    rename Fr _ _ _ _ => F''
    rw [show ((List.map (fun i => ns.getD i 0 * 2 ^ (wv * (i : Int)).toNat) (List.range vs.length)).sum) = x from whole_math hvl hB hw1 hv]
    exact hR _ _ _ F''.keep ⟨_, rfl⟩
end Mine
end
section
open PySem PySem.W PyProof.Rows PySem.Calls
namespace Mine

theorem joinL {g h h' : Heap} {L : Addr} {m : Str → Option Value} {news : List (Addr × Obj)} {r : Value} {ns : List Int} (F : Fr g L h m) (N : News g L h news) (k : h.StaysIn h') (d : FreshL h h' r ns) :
    ∃ a n vs, r = .ref a ∧ Fr g L h' m ∧ News g L h' ((a, listOf vs.toArray n) :: news) ∧ IntsAre vs ns ∧ ∀ p ∈ news, p.1 ≠ a := by
  obtain ⟨a, n, vs, e, f, q, i⟩ := d
  obtain ⟨oL, es, ep, hL, _⟩ := F.ns
  refine ⟨a, n, vs, e, F.after k, fun p hp => ?_, i, fun p hp c => ?_⟩
  · rcases List.mem_cons.mp hp with rfl | hp
    · refine ⟨q, fun c => ?_, freshUp F.keep f⟩
      have c' : a = L := c
      rw [c', hL] at f
      exact nomatch f
    · exact newsStay N k p hp
  · have := (N p hp).1
    rw [c, f] at this
    cases this
theorem callL {prog : Program} {w : World} {A : Around} {E : Value → Shared → Prop} {s : Shared} {g : Heap} {L : Addr} {m : Str → Option Value} {news : List (Addr × Obj)} {f : Addr} {vals : List Value} {Q : Value → Shared → Prop} {ns : List Int}
    (c : CallR prog w A f vals s (fun r h' => FreshL s.heap h' r ns)) (F : Fr g L s.heap m) (N : News g L s.heap news)
    (h : ∀ a n vs h' tk', Fr g L h' m → News g L h' ((a, listOf vs.toArray n) :: news) → IntsAre vs ns → (∀ p ∈ news, p.1 ≠ a) → Q (.ref a) { s with heap := h', toks := tk' }) :
    wpAny (model prog w) A (call (.ref f) vals) Q E s := by
  refine wpAny_call (c _ fun r h' tk' hst hpost => ?_)
  obtain ⟨a, n, vs, rfl, F', N', i, ne⟩ := joinL F N hst hpost
  exact h a n vs h' tk' F' N' i ne
theorem freshL_of {g h' : Heap} {L l : Addr} {news : List (Addr × Obj)} {items : Array Value} {n : Nat} {fs : List Int} (N : News g L h' news) (hm : (l, listOf items n) ∈ news) (hi : IntsAre items.toList fs) :
    FreshL g h' (.ref l) fs := ⟨l, n, items.toList, rfl, N.fresh hm, N.get hm, hi⟩

theorem half_pow {wv : Int} (hw1 : 1 ≤ wv) (k : Nat) : (2 : Int) ^ (wv * (k : Int)).toNat = (2 ^ wv.toNat) ^ k := by
  obtain ⟨n, rfl⟩ : ∃ n : Nat, wv = n := ⟨wv.toNat, by omega⟩
  rw [← Int.natCast_mul, Int.toNat_natCast, Int.toNat_natCast, Int.pow_mul]
theorem abs_eq (x : Int) : (if x < 0 then -x else x) = (x.natAbs : Int) := by split <;> omega
def SqTells (prog : Program) (w : World) (g : Heap) (wn : Nat) (wv : Int) (least : Int) (n : Nat) : Prop :=
  ∀ (dp un : Nat) (fr : Option (List Env)) (gd : Option (List Code)) (s : Shared) (x : Int) (tx tw tl : Tok),
    dp + 2 * n < 850 → g.StaysIn s.heap → 0 ≤ x → sz wn x ≤ 10 → sz wn x < n →
    CallR prog w (AR dp un fr gd) 163 [.int x tx, .int wv tw, .int least tl] s (fun r h' => FreshL s.heap h' r (sqrsF wn least n x))

theorem sq_step {prog : Program} {w : World} {p : Program} {loose : List Str} {mean : ExcName → Option Value} {mg mb : Str → Option Value}
   {g : Heap} {wn : Nat} {wv least : Int}
   (X : (hd.heap_39 w.params).In g) (T : Top p loose mean mg mb g) (hw1 : 1 ≤ wv) (hw5 : wv ≤ 5) (hwn : wn = wv.toNat)
   (n : Nat) (ih : SqTells prog w g wn wv least n) : SqTells prog w g wn wv least (n + 1) := by
  intro dp un fr gd s x tx tw tl hdp hg x0 hsx hsz
  intro R hR
  obtain ⟨hdp1, hdp2⟩ := upDp hdp
  replace X := X.keeps hg
  replace T := T.keeps hg
  refine' enter [(Str.ofString "x", .int x tx), (Str.ofString "w", .int wv tw), (Str.ofString "least", .int least tl)] X T ?k6 ?k7 ?k8 ?k9 ?kB ?_ ?c2 ?c3 ?c4 ?c5
  case k6 => k_is
  case k7 => k_is
  case k8 => exact Nat.lt_trans (Nat.lt_succ_self dp) (Nat.lt_trans hdp1 (by decide))
  case k9 => exact BindsTo.of_eq rfl
  case kB => exact locs rfl
  case c2 => exact rfl
  case c3 => exact rfl
  case c4 => exact rfl
  case c5 => decide
  intro L h₁ tk F N
  k_fold
  k_with_none
  k_with "call ref" => refine stop_of ?_
  k_steps
  show wpAny _ _ _ _ _ _
  refine callI (size_spec (up900 hdp1) (X.keeps F.keep) (T.keeps F.keep) hw1 hw5 x0) F N fun t h' tk' F N => ?_
  rw [← hwn]
  have hs1 : ((sz wn x : Nat) : Int) ≤ 10 := by omega
  have hsp : ((sz wn x : Int) + 1).fdiv 2 = (((sz wn x + 1) / 2 : Nat) : Int) := by rw [Int.fdiv_eq_ediv_of_nonneg _ (by omega)]; omega
  have hk1 : (sz wn x + 1) / 2 ≤ 10 := by omega
  have hm0 : 0 ≤ wv * ((sz wn x : Int) + 1).fdiv 2 := by rw [hsp]; exact Int.mul_nonneg (by omega) (by omega)
  have hm1 : wv * ((sz wn x : Int) + 1).fdiv 2 ≤ 5 * 10 := by rw [hsp]; exact Int.mul_le_mul (by omega) (by omega) (by omega) (by omega)
  dsimp only
  k_steps
  · rename Fr _ _ _ _ => F'
    rename News _ _ _ _ => N'
    rename (((sz wn x : Nat) : Int) < _) => hlt
    refine hR _ _ _ F'.keep ?_
    dsimp only
    rw [sqrsF, if_pos (by split at hlt <;> omega)]
    exact freshL_of (items := #[Value.int x tx]) N' (by k_mem) (.cons _ _ .nil)
  · show wpAny _ _ _ _ _ _
    rename Fr _ _ _ _ => F'
    rename News _ _ _ _ => N'
    rename (¬ ((sz wn x : Nat) : Int) < _) => hge
    have hge2 : 2 ≤ sz wn x := by split at hge <;> omega
    have B1 : (1 : Int) ≤ 2 ^ wn := pow_pos' (by omega) wn
    have hv := halves (show 1 ≤ wn by omega) x0 hge2
    have hk : (sz wn x + 1) / 2 < sz wn x := by omega
    have hPr : sqrsF wn least (n + 1) x = sqrsF wn least n (x % (2 ^ wn) ^ ((sz wn x + 1) / 2)) ++ sqrsF wn least n (x / (2 ^ wn) ^ ((sz wn x + 1) / 2)) ++ sqrsF wn least n ((x % (2 ^ wn) ^ ((sz wn x + 1) / 2) - x / (2 ^ wn) ^ ((sz wn x + 1) / 2)).natAbs : Int) := by
      rw [sqrsF, if_neg (by split at hge <;> omega)]
    have hH : (2 : Int) ^ (wv * ((sz wn x : Int) + 1).fdiv 2).toNat = (2 ^ wn) ^ ((sz wn x + 1) / 2) := by
      rw [hsp, half_pow hw1, hwn]
    generalize (sz wn x + 1) / 2 = k at hsp hk1 hv hk hPr hH
    have hfm : x.fmod ((2 : Int) ^ (wv * ((sz wn x : Int) + 1).fdiv 2).toNat) = x % (2 ^ wn) ^ k := by rw [hH, Int.fmod_eq_emod_of_nonneg _ (by have := pow_pos' B1 k; omega)]
    have hfd : x.fdiv ((2 : Int) ^ (wv * ((sz wn x : Int) + 1).fdiv 2).toNat) = x / (2 ^ wn) ^ k := by rw [hH, Int.fdiv_eq_ediv_of_nonneg _ (by have := pow_pos' B1 k; omega)]
    have xl0 := (mod_bounds (x := x) B1 k).1
    have xh0 := (div_bounds (x := x) B1 x0 k).1
    generalize x % (2 ^ wn) ^ k = XL, x / (2 ^ wn) ^ k = XH at hfm hfd xl0 xh0 hv hPr
    rw [hfm]
    refine callL (ih _ _ _ _ _ XL _ _ _ hdp2 (fun b o e => F'.keep _ _ (hg _ _ e)) xl0 (by omega) (by omega)) F' N' fun a1 n1 vs1 h' tk' F1 N1 i1 ne1 => ?_
    clear F' N'
    dsimp only
    k_steps
    show wpAny _ _ _ _ _ _
    rename Fr _ _ _ _ => F'
    rename News _ _ _ _ => N'
    rw [hfd]
    refine callL (ih _ _ _ _ _ XH _ _ _ hdp2 (fun b o e => F'.keep _ _ (hg _ _ e)) xh0 (by omega) (by omega)) F' N' fun a2 n2 vs2 h' tk' F1 N1 i2 ne2 => ?_
    clear F' N'
    have l1 := sqrs_len (show 1 ≤ wn by omega) least n XL xl0
    have l2 := sqrs_len (show 1 ≤ wn by omega) least n XH xh0
    have l3 := sqrs_len (show 1 ≤ wn by omega) least n ((XL - XH).natAbs : Int) (by omega)
    have p1 := Nat.pow_le_pow_right (show 0 < 3 by decide) (Nat.le_trans hv.1 hk1)
    have p2 := Nat.pow_le_pow_right (show 0 < 3 by decide) (Nat.le_trans hv.2.1 hk1)
    have p3 := Nat.pow_le_pow_right (show 0 < 3 by decide) (Nat.le_trans hv.2.2 hk1)
    have p10 : 3 ^ 10 = 59049 := by decide
    rw [p10] at p1 p2 p3
    replace l1 := Nat.le_trans l1 p1
    replace l2 := Nat.le_trans l2 p2
    replace l3 := Nat.le_trans l3 p3
    clear p1 p2 p3 p10
    generalize sqrsF wn least n XL = LA, sqrsF wn least n XH = LB at i1 i2 l1 l2 hPr
    dsimp only
    k_steps
    show wpAny _ _ _ _ _ _
    rename Fr _ _ _ _ => F'
    rename News _ _ _ _ => N'
    rw [hfm, hfd, abs_eq]
    refine callL (ih _ _ _ _ _ ((XL - XH).natAbs : Int) _ _ _ hdp2 (fun b o e => F'.keep _ _ (hg _ _ e)) (by omega) (by omega) (by omega)) F' N' fun a3 n3 vs3 h' tk' F1 N1 i3 ne3 => ?_
    clear F' N'
    generalize sqrsF wn least n ((XL - XH).natAbs : Int) = LC at i3 l3 hPr
    rename IntsAre _ (LA ++ LB) => i4
    have l4 : (LA ++ LB).length ≤ 2 * 59049 := by rw [List.length_append]; omega
    generalize LA ++ LB = LAB at i4 l4 hPr
    dsimp only
    k_steps
    rename Fr _ _ _ _ => F'
    rename News _ _ _ _ => N'
    rename IntsAre _ (LAB ++ LC) => hI
    refine hR _ _ _ F'.keep ?_
    dsimp only
    rw [hPr]
    exact freshL_of N' (by k_mem) hI

theorem sq_all {prog : Program} {w : World} {p : Program} {loose : List Str} {mean : ExcName → Option Value} {mg mb : Str → Option Value}
   {g : Heap} {wn : Nat} {wv least : Int}
   (X : (hd.heap_39 w.params).In g) (T : Top p loose mean mg mb g) (hw1 : 1 ≤ wv) (hw5 : wv ≤ 5) (hwn : wn = wv.toNat) : ∀ n, SqTells prog w g wn wv least n
  | 0 => fun _ _ _ _ _ _ _ _ _ _ _ _ _ h => absurd h (Nat.not_lt_zero _)
  | n + 1 => sq_step X T hw1 hw5 hwn n (sq_all X T hw1 hw5 hwn n)
end Mine
end
section
open PySem PySem.W PyProof.Rows PySem.Calls
namespace Mine
abbrev pairOf (a b : Int) (ta tb : Tok) : Obj := { cls := .type "tuple", data := .seq #[.int a ta, .int b tb] }
/-- a list's values are pairs that lie in the ledger's tail -/
inductive PairsAre (tl : List (Addr × Obj)) : List Value → List (Int × Int) → Prop
  | nil : PairsAre tl [] []
  | cons {t : Addr} {a b : Int} {ta tb : Tok} {vs : List Value} {l : List (Int × Int)} : (t, pairOf a b ta tb) ∈ tl → PairsAre tl vs l → PairsAre tl (.ref t :: vs) ((a, b) :: l)
theorem PairsAre.mono {tl tl' : List (Addr × Obj)} {vs : List Value} {l : List (Int × Int)} (x : PairsAre tl vs l) (h : ∀ p ∈ tl, p ∈ tl') : PairsAre tl' vs l := by
  induction x with
  | nil => exact .nil
  | cons hm _ ih => exact .cons (h _ hm) ih
theorem PairsAre.append {tl : List (Addr × Obj)} {vs ws : List Value} {l k : List (Int × Int)} (x : PairsAre tl vs l) (y : PairsAre tl ws k) : PairsAre tl (vs ++ ws) (l ++ k) := by
  induction x with
  | nil => exact y
  | cons hm _ ih => exact .cons hm ih
theorem PairsAre.length {tl : List (Addr × Obj)} {vs : List Value} {l : List (Int × Int)} (x : PairsAre tl vs l) : vs.length = l.length := by
  induction x with
  | nil => rfl
  | cons _ _ ih => simp [ih]
/-- a fresh list of fresh pairs -/
def FreshP (h h' : Heap) (r : Value) (l : List (Int × Int)) : Prop := ∃ a n vs tl, r = .ref a ∧ h.get? a = none ∧ h'.get? a = some (listOf vs.toArray n) ∧ (∀ p ∈ tl, h.get? p.1 = none ∧ h'.get? p.1 = some p.2 ∧ p.1 ≠ a) ∧ PairsAre tl vs l
theorem joinP {g h h' : Heap} {L : Addr} {m : Str → Option Value} {news : List (Addr × Obj)} {r : Value} {l : List (Int × Int)} (F : Fr g L h m) (N : News g L h news) (k : h.StaysIn h') (d : FreshP h h' r l) :
    ∃ a n vs tl, r = .ref a ∧ Fr g L h' m ∧ News g L h' ((a, listOf vs.toArray n) :: (news ++ tl)) ∧ PairsAre tl vs l ∧ (∀ p ∈ news ++ tl, p.1 ≠ a) ∧ ∀ p ∈ tl, ∀ q ∈ news, p.1 ≠ q.1 := by
  obtain ⟨a, n, vs, tl, e, f, q, ht, hp⟩ := d
  obtain ⟨oL, es, ep, hL, _⟩ := F.ns
  have fr : ∀ b, h.get? b = none → b ≠ L ∧ g.get? b = none := fun b e => by
    refine ⟨fun c => ?_, freshUp F.keep e⟩
    rw [c, hL] at e
    exact nomatch e
  refine ⟨a, n, vs, tl, e, F.after k, fun p hp => ?_, hp, fun p hp c => ?_, fun p hp q hq c => ?_⟩
  · rcases List.mem_cons.mp hp with rfl | hp
    · exact ⟨q, fr _ f⟩
    · rcases List.mem_append.mp hp with hp | hp
      · exact newsStay N k p hp
      · exact ⟨(ht p hp).2.1, fr _ (ht p hp).1⟩
  · rcases List.mem_append.mp hp with hp | hp
    · have := (N p hp).1
      rw [c, f] at this
      cases this
    · exact (ht p hp).2.2 c
  · have := (N q hq).1
    rw [← c, (ht p hp).1] at this
    cases this
theorem callP {prog : Program} {w : World} {A : Around} {E : Value → Shared → Prop} {s : Shared} {g : Heap} {L : Addr} {m : Str → Option Value} {news : List (Addr × Obj)} {f : Addr} {vals : List Value} {Q : Value → Shared → Prop} {l : List (Int × Int)}
    (c : CallR prog w A f vals s (fun r h' => FreshP s.heap h' r l)) (F : Fr g L s.heap m) (N : News g L s.heap news)
    (h : ∀ a n vs tl h' tk', Fr g L h' m → News g L h' ((a, listOf vs.toArray n) :: (news ++ tl)) → PairsAre tl vs l → (∀ p ∈ news ++ tl, p.1 ≠ a) → (∀ p ∈ tl, ∀ q ∈ news, p.1 ≠ q.1) → Q (.ref a) { s with heap := h', toks := tk' }) :
    wpAny (model prog w) A (call (.ref f) vals) Q E s := by
  refine wpAny_call (c _ fun r h' tk' hst hpost => ?_)
  obtain ⟨a, n, vs, tl, rfl, F', N', p, ne, ap⟩ := joinP F N hst hpost
  exact h a n vs tl h' tk' F' N' p ne ap
theorem freshP_of {g h' : Heap} {L l : Addr} {news tl : List (Addr × Obj)} {items : Array Value} {n : Nat} {ps : List (Int × Int)} (N : News g L h' news) (hm : (l, listOf items n) ∈ news) (ht : ∀ p ∈ tl, p ∈ news) (hne : ∀ p ∈ tl, p.1 ≠ l) (hi : PairsAre tl items.toList ps) :
    FreshP g h' (.ref l) ps := ⟨l, n, items.toList, tl, rfl, N.fresh hm, N.get hm, fun p hp => ⟨N.fresh (ht p hp), N.get (ht p hp), hne p hp⟩, hi⟩

def PTells (prog : Program) (w : World) (g : Heap) (wn : Nat) (wv : Int) (least : Int) (n : Nat) : Prop :=
  ∀ (dp un : Nat) (fr : Option (List Env)) (gd : Option (List Code)) (s : Shared) (x y : Int) (tx ty tw tl : Tok),
    dp + 2 * n < 850 → g.StaysIn s.heap → 0 ≤ x → 0 ≤ y → sz wn x ≤ 10 → sz wn y ≤ 10 → sz wn x + sz wn y < n →
    CallR prog w (AR dp un fr gd) 156 [.int x tx, .int y ty, .int wv tw, .int least tl] s (fun r h' => FreshP s.heap h' r (prodsF wn least n x y))

def PInv (s : Shared) (L : Addr) (x y wv least : Int) (tw tl : Tok) (s' : Shared) : Prop := ∃ h' tk tx ty, s' = { s with heap := h', toks := tk } ∧
  (∃ m, Fr s.heap L h' m ∧ ∀ p ∈ [(Str.ofString "y", Value.int y ty), (Str.ofString "x", .int x tx), (Str.ofString "w", .int wv tw), (Str.ofString "least", .int least tl)], m p.1 = some p.2) ∧ News s.heap L h' []
theorem two_ways' {Inv : Int → Int → Shared → Prop} {G : Shared → Prop} {c : Prop} [Decidable c] {x y : Int} (Good : Int → Int → Prop) (h1 : c → Good y x) (h2 : ¬ c → Good x y) (key : ∀ a b, Good a b → ∀ s', Inv a b s' → G s') :
    ∀ s', (if c then Inv y x else Inv x y) s' → G s' := by
  intro s' h
  by_cases q : c
  · rw [if_pos q] at h; exact key _ _ (h1 q) _ h
  · rw [if_neg q] at h; exact key _ _ (h2 q) _ h
def PGood (s : Shared) (R : Result → Shared → Prop) (wn n : Nat) (pr : Int → Int → List (Int × Int)) (a b : Int) : Prop :=
  ¬ sz wn a < sz wn b ∧ 0 ≤ a ∧ 0 ≤ b ∧ sz wn a ≤ 10 ∧ sz wn b ≤ 10 ∧ sz wn a + sz wn b ≤ n ∧ ∀ r h' tk', s.heap.StaysIn h' → FreshP s.heap h' r (pr a b) → R (.ok (.ret r)) { s with heap := h', toks := tk' }
end Mine
end
section
open PySem PySem.W PyProof.Rows PySem.Calls
namespace Mine

theorem pr_step {prog : Program} {w : World} {p : Program} {loose : List Str} {mean : ExcName → Option Value} {mg mb : Str → Option Value}
   {g : Heap} {wn : Nat} {wv least : Int}
   (X : (hd.heap_39 w.params).In g) (T : Top p loose mean mg mb g) (hw1 : 1 ≤ wv) (hw5 : wv ≤ 5) (hwn : wn = wv.toNat)
   (n : Nat) (ih : PTells prog w g wn wv least n) : PTells prog w g wn wv least (n + 1) := by
  intro dp un fr gd s x y tx ty tw tl hdp hg x0 y0 hsx hsy hsz
  intro R hR
  obtain ⟨hdp1, hdp2⟩ := upDp hdp
  replace X := X.keeps hg
  replace T := T.keeps hg
  refine' enter [(Str.ofString "x", .int x tx), (Str.ofString "y", .int y ty), (Str.ofString "w", .int wv tw), (Str.ofString "least", .int least tl)] X T ?k6 ?k7 ?k8 ?k9 ?kB ?_ ?c2 ?c3 ?c4 ?c5
  case k6 => k_is
  case k7 => k_is
  case k8 => exact Nat.lt_trans (Nat.lt_succ_self dp) (Nat.lt_trans hdp1 (by decide))
  case k9 => exact BindsTo.of_eq rfl
  case kB => exact locs rfl
  case c2 => exact rfl
  case c3 => exact rfl
  case c4 => exact rfl
  case c5 => decide
  intro L h₁ tk F N
  refine execs_cut (if sz wn x < sz wn y then PInv s L y x wv least tw tl else PInv s L x y wv least tw tl) ?_ ?_
  · show wpAny _ _ _ _ _ _
    k_fold
    k_with_none
    k_with "call ref" => refine stop_of ?_
    k_steps
    show wpAny _ _ _ _ _ _
    refine callI (size_spec (up900 hdp1) (X.keeps F.keep) (T.keeps F.keep) hw1 hw5 x0) F N fun t1 h' tk' F N => ?_
    rw [← hwn]
    dsimp only
    k_steps
    show wpAny _ _ _ _ _ _
    refine callI (size_spec (up900 hdp1) (X.keeps F.keep) (T.keeps F.keep) hw1 hw5 y0) F N fun t2 h' tk' F N => ?_
    rw [← hwn]
    dsimp only
    k_steps
    · rename Fr _ _ _ _ => F'
      rename News _ _ _ _ => N'
      rename (((sz wn x : Nat) : Int) < _) => hlt
      rw [if_pos (by omega)]
      exact ⟨_, _, _, _, rfl, ⟨_, F', by kst_all⟩, newsSub N' (fun p hp => nomatch hp)⟩
    · rename Fr _ _ _ _ => F'
      rename (¬ ((sz wn x : Nat) : Int) < _) => hlt
      rw [if_neg (by omega)]
      exact ⟨_, _, _, _, rfl, ⟨_, F', by kst_all⟩, fun p hp => nomatch hp⟩
  · clear F N
    refine two_ways' (Inv := fun a b => PInv s L a b wv least tw tl) (PGood s R wn n (prodsC wn least (prodsF wn least n)))
      (fun q => ⟨by omega, y0, x0, hsy, hsx, by omega, fun r h' tk' k1 k5 => hR r h' tk' k1 ?_⟩) (fun q => ⟨q, x0, y0, hsx, hsy, by omega, fun r h' tk' k1 k5 => hR r h' tk' k1 ?_⟩) ?_
    · dsimp only; rw [prodsF, if_pos q]; exact k5
    · dsimp only; rw [prodsF, if_neg q]; exact k5
    clear hR hsx hsy hsz x0 y0
    clear x y tx ty
    rintro x y ⟨hord, x0, y0, hsx, hsy, hsz, hR⟩ s' ⟨h', tk', tx, ty, rfl, ⟨m, F, hm⟩, N⟩
    replace F := frOf _ F hm
    dsimp only [kstB] at F
    show wpAny _ _ _ _ _ _
    k_fold
    k_with_none
    k_with "pyIter ref" => refine stop_of ?_
    k_with "call ref" => refine stop_of ?_
    k_steps
    show wpAny _ _ _ _ _ _
    refine callI (size_spec (up900 hdp1) (X.keeps F.keep) (T.keeps F.keep) hw1 hw5 x0) F N fun t1 h' tk' F N => ?_
    rw [← hwn]
    dsimp only
    k_steps
    show wpAny _ _ _ _ _ _
    refine callI (size_spec (up900 hdp1) (X.keeps F.keep) (T.keeps F.keep) hw1 hw5 y0) F N fun t2 h' tk' F N => ?_
    rw [← hwn]
    dsimp only
    have hsp : ((sz wn x : Int) + 1).fdiv 2 = (((sz wn x + 1) / 2 : Nat) : Int) := by rw [Int.fdiv_eq_ediv_of_nonneg _ (by omega)]; omega
    have hk1 : (sz wn x + 1) / 2 ≤ 10 := by omega
    have hm0 : 0 ≤ wv * ((sz wn x : Int) + 1).fdiv 2 := by rw [hsp]; exact Int.mul_nonneg (by omega) (by omega)
    have hm1 : wv * ((sz wn x : Int) + 1).fdiv 2 ≤ 5 * 10 := by rw [hsp]; exact Int.mul_le_mul (by omega) (by omega) (by omega) (by omega)
    have B1 : (1 : Int) ≤ 2 ^ wn := pow_pos' (by omega) wn
    have bx := sz_lt_self (show 1 ≤ wn by omega) x0
    k_with "call builtin:list.extend" => refine stop_of ?_
    k_with "binaryOp Add ref ref" => refine stop_of ?_
    k_steps
    · rename Fr _ _ _ _ => F'
      rename News _ _ _ _ => N'
      rename (((sz wn y : Nat) : Int) < _) => hlt
      rename (_ ∧ _) => hll
      refine hR _ _ _ F'.keep ?_
      unfold prodsC
      rw [if_pos (by split at hlt <;> omega)]
      exact freshP_of (items := #[Value.ref _]) N' (by k_mem) (all1 (by k_mem)) (all1 (by exact Nat.ne_of_lt hll.1)) (.cons (.head _) .nil)
    · show wpAny _ _ _ _ _ _
      rename Fr _ _ _ _ => F'
      rename News _ _ _ _ => N'
      rename (¬ ((sz wn y : Nat) : Int) < _) => hge
      rename (2 * ((sz wn y : Nat) : Int) ≤ _) => hun
      rename (@LT.lt Nat _ _ _) => hll
      have hge2 : 2 ≤ sz wn y := by split at hge <;> omega
      have hPr : prodsC wn least (prodsF wn least n) x y = (List.range ((sz wn x + sz wn y - 1) / sz wn y)).flatMap fun i => prodsF wn least n (x / ((2 : Int) ^ wn) ^ (i * sz wn y) % ((2 : Int) ^ wn) ^ sz wn y) y := by
        unfold prodsC
        rw [if_neg (by split at hge <;> omega), if_pos (by omega)]
      have hn1 : sz wn y + sz wn y < n + 1 := by omega
      have hfl : ∀ i, (prodsF wn least n (x / ((2 : Int) ^ wn) ^ (i * sz wn y) % ((2 : Int) ^ wn) ^ sz wn y) y).length ≤ 59049 := fun i => by
        refine Nat.le_trans (prods_len (by omega) least n _ _ (mod_bounds B1 _).1 y0) (Nat.le_trans (Nat.pow_le_pow_right (by decide) (show _ ≤ 10 from ?_)) (by decide))
        have := piece_sz (w := wn) (x := x) (by omega) (i * sz wn y) (sz wn y)
        omega
      have hs0 : 0 ≤ wv * ((sz wn y : Nat) : Int) := Int.mul_nonneg (by omega) (by omega)
      have hs1 : wv * ((sz wn y : Nat) : Int) ≤ 5 * 10 := Int.mul_le_mul (by omega) (by omega) (by omega) (by omega)
      with_unfolding_all refine' loopC (fun i m nx => ∃ lf nf vf tq, nx = (lf, listOf (List.toArray vf) nf) :: tq ∧ (∀ p ∈ tq, p.1 ≠ lf) ∧ PairsAre tq vf ((List.range i).flatMap fun j => prodsF wn least n (x / ((2 : Int) ^ wn) ^ (j * sz wn y) % ((2 : Int) ^ wn) ^ sz wn y) y) ∧ ∀ p ∈ [(Str.ofString "found", Value.ref lf), (Str.ofString "short_one", .int (sz wn y : Nat) t2), (Str.ofString "y", Value.int y ty), (Str.ofString "x", .int x tx), (Str.ofString "w", .int wv tw), (Str.ofString "least", .int least tl)], m p.1 = some p.2) (by rfl) (by assumption) (small_c (by omega) (by omega) (by omega) (by omega)) (size_c (by omega)) (by assumption) (by assumption) ?start ?turn ?done
      case start => exact ⟨_, _, [], _, rfl, all1 (Nat.ne_of_lt hll), .nil, by kst_all⟩
      case done =>
        rintro m₁ news₁ h tk ⟨lf, nf, vf, tq, rfl, hne, hpa, hm'⟩ F N
        replace F := frOf _ F hm'
        dsimp only [kstB] at F
        show wpAny _ _ _ _ _ _
        k_steps
        refine hR _ _ _ F.keep ?_
        rw [hPr]
        exact freshP_of (items := List.toArray vf) N (by k_mem) (fun p hp => .tail _ hp) hne hpa
      case turn =>
        rintro i t m₁ news₁ I oI h tk hi ⟨lf, nf, vf, tq, rfl, hne, hpa, hm'⟩ hI F N
        replace F := frAt F hm'
        dsimp only [kstB] at F
        have hic := turn_lt (show 1 ≤ sz wn y by omega) hi
        have hat : (0 : Int) + (i : Int) * ((sz wn y : Nat) : Int) = ((i * sz wn y : Nat) : Int) := by rw [Int.zero_add, Int.natCast_mul]
        rw [hat] at F
        have hlen : vf.length ≤ 10 * 59049 := by
          rw [hpa.length]
          refine Nat.le_trans (flat_len _ 59049 _ hfl) (Nat.mul_le_mul_right _ ?_)
          have := Nat.le_mul_of_pos_right i (show 0 < sz wn y by omega)
          omega
        have hps := piece_sz (w := wn) (x := x) (by omega) (i * sz wn y) (sz wn y)
        have hrf := range_flat (fun j => prodsF wn least n (x / ((2 : Int) ^ wn) ^ (j * sz wn y) % ((2 : Int) ^ wn) ^ sz wn y) y) i
        have hli := hfl i
        have hp0 := (mod_bounds (x := x / ((2 : Int) ^ wn) ^ (i * sz wn y)) B1 (sz wn y)).1
        have hb0 : 0 ≤ wv * ((i * sz wn y : Nat) : Int) := Int.mul_nonneg (by omega) (by omega)
        have hb1 : wv * ((i * sz wn y : Nat) : Int) ≤ 5 * 10 := Int.mul_le_mul (by omega) (by omega) (by omega) (by omega)
        have hxp : (x.fdiv (2 ^ (wv * ((i * sz wn y : Nat) : Int)).toNat)).fmod (2 ^ (wv * ((sz wn y : Nat) : Int)).toNat) = x / ((2 : Int) ^ wn) ^ (i * sz wn y) % ((2 : Int) ^ wn) ^ sz wn y := by
          rw [half_pow hw1, half_pow hw1, ← hwn, Int.fdiv_eq_ediv_of_nonneg _ (by have := pow_pos' B1 (i * sz wn y); omega), Int.fmod_eq_emod_of_nonneg _ (by have := pow_pos' B1 (sz wn y); omega)]
        generalize i * sz wn y = e at hic hat F hps hrf hli hp0 hb0 hb1 hxp
        show wpAny _ _ _ _ _ _
        k_fold
        k_steps
        show wpAny _ _ _ _ _ _
        rename Fr _ _ _ _ => F'
        rename News _ _ _ _ => N'
        rw [hxp]
        refine callP (ih _ _ _ _ _ _ y _ _ _ _ hdp2 (fun b o e => F'.keep _ _ (hg _ _ e)) hp0 y0 (by omega) hsy (by omega)) F' N' fun a1 n1 vs1 tl1 h' tk' F1 N1 pa1 ne1 ap1 => ?_
        clear F' N'
        dsimp only
        k_steps
        show wpAny _ _ _ _ _ _
        have hIlf : I ≠ lf := (hI _ (.head _)).symm
        refine extend_in (own := [(a1, W.listOf vs1.toArray n1), (I, oI)]) (rest := tq ++ tl1) F1 N1 (all2 (ne1 (lf, W.listOf vf.toArray nf) (by simp)).symm hIlf) (fun p hp => ?_) (N1 _ (.head _)).1 (fun h' n' F2 N2 => ?_) (by rw [List.size_toArray, pa1.length]; refine Nat.le_trans (Nat.add_le_add hlen hli) (by decide))
        · rcases List.mem_append.mp hp with hp | hp
          · exact hne p hp
          · exact ap1 p hp _ (.tail _ (.head _))
        dsimp only
        k_steps
        rename Fr _ _ _ _ => F'
        refine ⟨rfl, _, _, _, (lf, listOf (vf ++ vs1).toArray n') :: (tq ++ tl1), rfl, F', newsSub N2 fun p hp => ?_, fun p hp => ?_, lf, n', vf ++ vs1, tq ++ tl1, rfl, fun p hp => ?_, ?_, by kst_all⟩
        · exact .tail _ hp
        · rcases List.mem_cons.mp hp with rfl | hp
          · exact hIlf.symm
          · rcases List.mem_append.mp hp with hp | hp
            · exact hI p (.tail _ hp)
            · exact ap1 p hp _ (.head _)
        · rcases List.mem_append.mp hp with hp | hp
          · exact hne p hp
          · exact ap1 p hp _ (.tail _ (.head _))
        · rw [hrf]
          exact (hpa.mono fun p hp => List.mem_append_left _ hp).append (pa1.mono fun p hp => List.mem_append_right _ hp)
    · show wpAny _ _ _ _ _ _
      rename Fr _ _ _ _ => F'
      rename News _ _ _ _ => N'
      rename (¬ ((sz wn y : Nat) : Int) < _) => hge
      rename (¬ 2 * ((sz wn y : Nat) : Int) ≤ _) => hnu
      have hge2 : 2 ≤ sz wn y := by split at hge <;> omega
      have hv := halves (show 1 ≤ wn by omega) x0 (by omega)
      have hv2 := parts (show 1 ≤ wn by omega) y0 ((sz wn x + 1) / 2)
      have hk : (sz wn x + 1) / 2 < sz wn x := by omega
      have hPr : prodsC wn least (prodsF wn least n) x y = prodsF wn least n (x % (2 ^ wn) ^ ((sz wn x + 1) / 2)) (y % (2 ^ wn) ^ ((sz wn x + 1) / 2)) ++ prodsF wn least n (x / (2 ^ wn) ^ ((sz wn x + 1) / 2)) (y / (2 ^ wn) ^ ((sz wn x + 1) / 2))
          ++ prodsF wn least n ((x % (2 ^ wn) ^ ((sz wn x + 1) / 2) - x / (2 ^ wn) ^ ((sz wn x + 1) / 2)).natAbs : Int) ((y % (2 ^ wn) ^ ((sz wn x + 1) / 2) - y / (2 ^ wn) ^ ((sz wn x + 1) / 2)).natAbs : Int) := by
        unfold prodsC
        rw [if_neg (by split at hge <;> omega), if_neg (by omega)]
      have hH : (2 : Int) ^ (wv * ((sz wn x : Int) + 1).fdiv 2).toNat = (2 ^ wn) ^ ((sz wn x + 1) / 2) := by
        rw [hsp, half_pow hw1, hwn]
      generalize (sz wn x + 1) / 2 = k at hsp hk1 hv hv2 hk hPr hH
      have hH1 := pow_pos' B1 k
      have hfm : x.fmod ((2 : Int) ^ (wv * ((sz wn x : Int) + 1).fdiv 2).toNat) = x % (2 ^ wn) ^ k := by rw [hH, Int.fmod_eq_emod_of_nonneg _ (by omega)]
      have hfd : x.fdiv ((2 : Int) ^ (wv * ((sz wn x : Int) + 1).fdiv 2).toNat) = x / (2 ^ wn) ^ k := by rw [hH, Int.fdiv_eq_ediv_of_nonneg _ (by omega)]
      have hym : y.fmod ((2 : Int) ^ (wv * ((sz wn x : Int) + 1).fdiv 2).toNat) = y % (2 ^ wn) ^ k := by rw [hH, Int.fmod_eq_emod_of_nonneg _ (by omega)]
      have hyd : y.fdiv ((2 : Int) ^ (wv * ((sz wn x : Int) + 1).fdiv 2).toNat) = y / (2 ^ wn) ^ k := by rw [hH, Int.fdiv_eq_ediv_of_nonneg _ (by omega)]
      have xl0 := (mod_bounds (x := x) B1 k).1
      have xh0 := (div_bounds (x := x) B1 x0 k).1
      have yl0 := (mod_bounds (x := y) B1 k).1
      have yh0 := (div_bounds (x := y) B1 y0 k).1
      clear hH1
      have zs : ∀ {a : Nat}, a ≤ k → a ≤ 10 := fun h => Nat.le_trans h hk1
      have zy : ∀ {a : Nat}, a ≤ sz wn y → a ≤ 10 := fun h => Nat.le_trans h hsy
      have zn : ∀ {a b : Nat}, a ≤ k → b ≤ sz wn y → a + b < n := fun h1 h2 => Nat.lt_of_lt_of_le (Nat.add_lt_add_of_lt_of_le (Nat.lt_of_le_of_lt h1 hk) h2) hsz
      generalize x % (2 ^ wn) ^ k = XL, x / (2 ^ wn) ^ k = XH, y % (2 ^ wn) ^ k = YL, y / (2 ^ wn) ^ k = YH at hfm hfd hym hyd xl0 xh0 yl0 yh0 hv hv2 hPr
      have hw0 : 1 ≤ wn := by omega
      have l1 : (prodsF wn least n XL YL).length ≤ 59049 := Nat.le_trans (prods_len hw0 least n XL YL xl0 yl0) (Nat.le_trans (Nat.pow_le_pow_right (by decide) (Nat.max_le.mpr ⟨zs hv.1, zy hv2.1⟩)) (by decide))
      have l2 : (prodsF wn least n XH YH).length ≤ 59049 := Nat.le_trans (prods_len hw0 least n XH YH xh0 yh0) (Nat.le_trans (Nat.pow_le_pow_right (by decide) (Nat.max_le.mpr ⟨zs hv.2.1, zy hv2.2.1⟩)) (by decide))
      have l3 : (prodsF wn least n ((XL - XH).natAbs : Int) ((YL - YH).natAbs : Int)).length ≤ 59049 := Nat.le_trans (prods_len hw0 least n _ _ (by omega) (by omega)) (Nat.le_trans (Nat.pow_le_pow_right (by decide) (Nat.max_le.mpr ⟨zs hv.2.2, zy hv2.2.2⟩)) (by decide))
      rw [hfm, hym]
      refine callP (ih _ _ _ _ _ XL YL _ _ _ _ hdp2 (fun b o e => F'.keep _ _ (hg _ _ e)) xl0 yl0 (zs hv.1) (zy hv2.1) (zn hv.1 hv2.1)) F' (newsSub N' (fun p hp => nomatch hp) : News _ _ _ []) fun a1 n1 vs1 tl1 h' tk' F1 N1 pa1 ne1 ap1 => ?_
      clear F' N'
      dsimp only
      k_steps
      show wpAny _ _ _ _ _ _
      rename Fr _ _ _ _ => F'
      rename News _ _ _ _ => N'
      rw [hfd, hyd]
      refine callP (ih _ _ _ _ _ XH YH _ _ _ _ hdp2 (fun b o e => F'.keep _ _ (hg _ _ e)) xh0 yh0 (zs hv.2.1) (zy hv2.2.1) (zn hv.2.1 hv2.2.1)) F' N' fun a2 n2 vs2 tl2 h' tk' F1 N1 pa2 ne2 ap2 => ?_
      clear F' N'
      generalize prodsF wn least n XL YL = LA, prodsF wn least n XH YH = LB at pa1 pa2 l1 l2 hPr
      dsimp only
      k_steps
      show wpAny _ _ _ _ _ _
      rename Fr _ _ _ _ => F'
      rename News _ _ _ _ => N'
      refine add_lists (vs := vs1) (ws := vs2) F' N' ⟨_, (N' (a1, W.listOf vs1.toArray n1) (by simp)).1, rfl, _, rfl⟩ ⟨_, (N' (a2, W.listOf vs2.toArray n2) (by simp)).1, rfl, _, rfl⟩ (fun h' F2 N2 => ?_) (by rw [pa1.length, pa2.length]; exact Nat.le_trans (Nat.add_le_add l1 l2) (by decide))
      have N3 := newsSub (l' := (_, { cls := Value.type "list", data := Data.seq (vs1 ++ vs2).toArray }) :: (tl1 ++ tl2)) N2 (fun p hp => by
        rcases List.mem_cons.mp hp with rfl | hp
        · exact .head _
        · rcases List.mem_append.mp hp with hp | hp <;> simp [hp])
      have ne3 : ∀ p ∈ tl1 ++ tl2, p.1 ≠ _ := fun p hp => Nat.ne_of_lt (Heap.lt_size (N' p (by rcases List.mem_append.mp hp with hp | hp <;> simp [hp])).1)
      have pa3 := (pa1.mono (tl' := tl1 ++ tl2) fun p hp => List.mem_append_left _ hp).append (pa2.mono fun p hp => List.mem_append_right _ hp)
      clear F' N' N2
      dsimp only
      generalize (Shared.heap _).objs.size = a3 at F2 N3 ne3 ⊢
      have l4 : (LA ++ LB).length ≤ 2 * 59049 := by rw [List.length_append]; omega
      clear ne1 ne2 ap1 ap2 pa1 pa2
      generalize tl1 ++ tl2 = tl3, vs1 ++ vs2 = vs3, LA ++ LB = LAB at N3 ne3 pa3 l4 hPr
      k_steps
      show wpAny _ _ _ _ _ _
      rename Fr _ _ _ _ => F'
      rename News _ _ _ _ => N'
      rw [hfm, hfd, hym, hyd, abs_eq, abs_eq]
      refine callP (ih _ _ _ _ _ ((XL - XH).natAbs : Int) ((YL - YH).natAbs : Int) _ _ _ _ hdp2 (fun b o e => F'.keep _ _ (hg _ _ e)) (natInt _) (natInt _) (zs hv.2.2) (zy hv2.2.2) (zn hv.2.2 hv2.2.2)) F' N' fun a5 n5 vs5 tl5 h' tk' F1 N1 pa5 ne5 ap5 => ?_
      clear F' N'
      generalize prodsF wn least n ((XL - XH).natAbs : Int) ((YL - YH).natAbs : Int) = LC at pa5 l3 hPr
      dsimp only
      k_steps
      show wpAny _ _ _ _ _ _
      refine add_lists (vs := vs3) (ws := vs5) F1 N1 ⟨_, (N1 (a3, W.listOf vs3.toArray 0) (by simp)).1, rfl, _, rfl⟩ ⟨_, (N1 (a5, W.listOf vs5.toArray n5) (by simp)).1, rfl, _, rfl⟩ (fun h' F2 N2 => ?_) (by rw [pa3.length, pa5.length]; exact Nat.le_trans (Nat.add_le_add l4 l3) (by decide))
      have ne6 : ∀ p ∈ tl3 ++ tl5, p.1 ≠ _ := fun p hp => Nat.ne_of_lt (Heap.lt_size (N1 p (by rcases List.mem_append.mp hp with hp | hp <;> simp [hp])).1)
      have pa6 := (pa3.mono (tl' := tl3 ++ tl5) fun p hp => List.mem_append_left _ hp).append (pa5.mono fun p hp => List.mem_append_right _ hp)
      dsimp only
      k_steps
      refine hR _ _ _ F2.keep ?_
      rw [hPr]
      exact freshP_of (items := (vs3 ++ vs5).toArray) (n := 0) N2 (by k_mem) (fun p hp => by rcases List.mem_append.mp hp with hp | hp <;> simp [hp]) ne6 pa6

theorem pr_all {prog : Program} {w : World} {p : Program} {loose : List Str} {mean : ExcName → Option Value} {mg mb : Str → Option Value}
   {g : Heap} {wn : Nat} {wv least : Int}
   (X : (hd.heap_39 w.params).In g) (T : Top p loose mean mg mb g) (hw1 : 1 ≤ wv) (hw5 : wv ≤ 5) (hwn : wn = wv.toNat) : ∀ n, PTells prog w g wn wv least n
  | 0 => fun _ _ _ _ _ _ _ _ _ _ _ _ _ _ _ _ _ h => absurd h (Nat.not_lt_zero _)
  | n + 1 => pr_step X T hw1 hw5 hwn n (pr_all X T hw1 hw5 hwn n)
end Mine
end
section
open PySem PySem.W PyProof.Rows PySem.Calls
namespace Mine
abbrev trayOf (k : Int) (t : Tok) (l2 : Addr) (n : Nat) : Obj := listOf #[Value.int k t, Value.ref l2] n

theorem draw_spec {prog : Program} {w : World} {dp un : Nat} {fr : Option (List Env)} {gd : Option (List Code)} {s : Shared} {p : Program} {loose : List Str} {mean : ExcName → Option Value} {mg mb : Str → Option Value}
   {g : Heap} {tr l2 : Addr} {k many : Int} {t tm : Tok} {n : Nat} {vs : List Value} {ns : List Int}
   (hdp : dp < 900) (X : (hd.heap_39 w.params).In g) (T : Top p loose mean mg mb g) (hg : g.StaysIn s.heap) (hgl : g.get? tr = none) (hlg : s.heap.get? tr = some (trayOf k t l2 n))
   (hl : s.heap.IsList l2 vs.toArray) (hne : l2 ≠ tr) (hi : IntsAre vs ns) (hk0 : 0 ≤ k) (hk1 : k ≤ 100) (hm0 : 1 ≤ many) (hm1 : many ≤ 64) (hn : ns.length ≤ 100) :
   CallM prog w (AR dp un fr gd) 130 [.ref tr, .int many tm] s [(tr, trayOf k t l2 n)] (fun r _ lg' => (∃ v t, r = .int v t ∧ 0 ≤ v ∧ v < many) ∧ ∃ t' n', lg' = [(tr, trayOf (k + 1) t' l2 n')]) := by
  intro R hR
  refine' enterM (lg := [(tr, trayOf k t l2 n)]) [(Str.ofString "tray", .ref tr), (Str.ofString "many", .int many tm)] X T hg (all1 (a := (tr, trayOf k t l2 n)) hgl) (all1 (a := (tr, trayOf k t l2 n)) hlg) ?k6 ?k7 ?k8 ?k9 ?kB ?_ ?c2 ?c3 ?c4 ?c5
  case k6 => k_is
  case k7 => k_is
  case k8 => (show dp < 1000); omega
  case k9 => exact BindsTo.of_eq rfl
  case kB => exact locs rfl
  case c2 => exact rfl
  case c3 => exact rfl
  case c4 => exact rfl
  case c5 => decide
  intro L h₁ tk h0 he0 hg0 X0 T0 F N hs1
  have hl0 : h0.IsList l2 vs.toArray := by rw [he0]; exact hl.at fun _ q => hideAll_get _ q (by simpa using hne)
  clear X T hl
  show wpAny _ _ _ _ _ _
  k_fold
  k_with_none
  have hb : ∀ q : Int, 0 ≤ q.fmod many ∧ q.fmod many < many := fun q => by
    rw [Int.fmod_eq_emod_of_nonneg _ (by omega)]
    exact ⟨Int.emod_nonneg _ (by omega), Int.emod_lt_of_pos _ (by omega)⟩
  have w1 : ∀ o o' : Obj, Wider [(tr, o)] [(tr, o')] := fun o o' q hq => ⟨(tr, o'), .head _, by rw [List.mem_singleton.mp hq]⟩
  k_steps
  · rename Fr _ _ _ _ => F'
    rename News _ _ _ _ => N'
    exact hR _ _ _ _ (keepOff_of he0 F') (logOf N' fun p hp => hp) (grown_of he0 N' fun p hp => hp) (w1 _ _) ⟨⟨_, _, rfl, hb _⟩, _, _, rfl⟩
  · rename Fr _ _ _ _ => F'
    rename News _ _ _ _ => N'
    exact hR _ _ _ _ (keepOff_of he0 F') (logOf N' fun p hp => hp) (grown_of he0 N' fun p hp => hp) (w1 _ _) ⟨⟨_, _, rfl, hb _⟩, _, _, rfl⟩

/-- behind a call that turned one object of the ledger -/
theorem joinT1 {g h h' : Heap} {L tr : Addr} {m : Str → Option Value} {pre post : Led} {o o' : Obj} (F : Fr g L h m) (N : News g L h (pre ++ (tr, o) :: post)) (k : KeepOff [(tr, o)] h h') (kl : h'.get? tr = some o')
    (h1 : ∀ p ∈ pre, p.1 ≠ tr) (h2 : ∀ p ∈ post, p.1 ≠ tr) : Fr g L h' m ∧ News g L h' (pre ++ (tr, o') :: post) := by
  have nt := N (tr, o) (List.mem_append_right _ (.head _))
  have off : ∀ b : Addr, b ≠ tr → Off [(tr, o)] b := fun b hb => all1 (Ne.symm hb)
  obtain ⟨oL, es, ep, hL, r⟩ := F.ns
  refine ⟨⟨⟨oL, es, ep, k _ _ (off _ (Ne.symm nt.2.1)) hL, r⟩, fun b ob e => k _ _ (off _ fun c => ?_) (F.keep _ _ e), F.above⟩, fun p hp => ?_⟩
  · rw [c, nt.2.2] at e; cases e
  · rcases List.mem_append.mp hp with hp | hp
    · have z := N p (List.mem_append_left _ hp)
      exact ⟨k _ _ (off _ (h1 p hp)) z.1, z.2⟩
    · rcases List.mem_cons.mp hp with rfl | hp
      · exact ⟨kl, nt.2⟩
      · have z := N p (List.mem_append_right _ (.tail _ hp))
        exact ⟨k _ _ (off _ (h2 p hp)) z.1, z.2⟩
end Mine
end
section
open PySem PySem.W PyProof.Rows PySem.Calls
namespace Mine

/-- a draw in the law's own frame, or in a block of it -/
theorem wp_draw {prog : Program} {w : World} {dp un : Nat} {fr : Option (List Env)} {gd : Option (List Code)} {env : Env} {s : Shared} {p : Program} {loose : List Str} {mean : ExcName → Option Value} {mg mb : Str → Option Value} {E : Value → Shared → Prop}
   {g : Heap} {L tr l2 : Addr} {m : Str → Option Value} {news : Led} {gU : Obj → Led} {k many : Int} {t tm : Tok} {n : Nat} {o2 : Obj} {ys : List Value} {zs : List Int} {Q : Value → Shared → Prop}
   (hdp : dp < 800) (X : (hd.heap_39 w.params).In g) (T : Top p loose mean mg mb g) (F : Fr g L s.heap m) (N : News g L s.heap news) (U : UpdF tr (trayOf k t l2 n) news gU)
   (hl : (l2, o2) ∈ news) (ho2 : o2.cls = .type "list") (hod : ∃ q, o2.data = .seq ys.toArray q) (hi : IntsAre ys zs) (hk0 : 0 ≤ k) (hk1 : k ≤ 100) (hm0 : 1 ≤ many) (hm1 : many ≤ 64) (hn : zs.length ≤ 100)
   (h : ∀ v tv h' tk' t' n', 0 ≤ v → v < many → Fr g L h' m → News g L h' (gU (trayOf (k + 1) t' l2 n')) → Q (.int v tv) { s with heap := h', toks := tk' }) :
   wpAny (model prog w) ((AR dp un fr gd).deeper env) (call (.ref 130) [.ref tr, .int many tm]) Q E s := by
  obtain ⟨pre, post, rfl, hg, h1, h2⟩ := U.split
  have nt := N (tr, trayOf k t l2 n) (List.mem_append_right _ (.head _))
  have nl := N _ hl
  have hne : l2 ≠ tr := fun c => by
    have := nl.1
    rw [c, nt.1] at this
    cases this
    obtain ⟨q, hq⟩ := hod
    cases hi with
    | nil => cases hq
    | cons n tk r =>
      have := (Data.seq.inj hq).1
      have := congrArg Array.toList this
      simp at this
      obtain ⟨_, e⟩ := this
      rw [← e] at r
      cases r with
      | _ => done
  refine wpAny_call (draw_spec (g := g) (k := k) (t := t) (n := n) (l2 := l2) (by show dp + 1 < 900; omega) X T F.keep nt.2.2 nt.1 ⟨o2, nl.1, ho2, hod⟩ hne hi hk0 hk1 hm0 hm1 hn _ fun r h' tk' lg' k1 k2 k3 k4 hpost => ?_)
  obtain ⟨⟨v, tv, rfl, hv0, hv1⟩, t', n', rfl⟩ := hpost
  obtain ⟨F', N'⟩ := joinT1 F N k1 (k2 _ (.head _)) h1 h2
  exact h v tv h' tk' t' n' hv0 hv1 F' (by rw [hg]; exact N')

theorem updMem {d : Addr} {o : Obj} {l : Led} {g : Obj → Led} (U : UpdF d o l g) (o' : Obj) : (d, o') ∈ g o' := by
  obtain ⟨pre, post, _, hg, _, _⟩ := U.split
  rw [hg]; exact List.mem_append_right _ (.head _)
theorem updOff {d : Addr} {o : Obj} {l : Led} {g : Obj → Led} (U : UpdF d o l g) (o₁ o₂ : Obj) {P : Addr → Prop} (h : ∀ p ∈ g o₁, P p.1) : ∀ p ∈ g o₂, P p.1 := by
  obtain ⟨pre, post, _, hg, _, _⟩ := U.split
  rw [hg] at h ⊢
  intro p hp
  rcases List.mem_append.mp hp with hp | hp
  · exact h p (List.mem_append_left _ hp)
  · rcases List.mem_cons.mp hp with rfl | hp
    · exact h (d, o₁) (List.mem_append_right _ (.head _))
    · exact h p (List.mem_append_right _ (.tail _ hp))
theorem updAt {d : Addr} {o : Obj} {l : Led} {g : Obj → Led} (U : UpdF d o l g) (o₁ : Obj) : UpdF d o₁ (g o₁) g := by
  induction U with
  | head h => exact .head h
  | tail h _ ih => exact .tail h ih

open LCg in
/-- a comprehension over a range whose every element turns one object of the ledger and hands back a digit -/
theorem comp_draws {prog : Program} {w : World} {A : Around} {s : Shared} {h₀ : Heap} {L tr l2 : Addr} {m : Str → Option Value} {env : Env} {elt : PySem.Expr} {x : Str} {scope : Scope} {cl : List (Str × Addr)} {P : Nat → Value → Prop} {Fin : List Value → Led → Prop} {gU : Obj → Led} {o₀ : Obj} {l₀ : Led} {B : Int}
    (U : UpdF tr o₀ l₀ gU) (kmax : Int)
    (helt : ∀ (k : Int) (t : Tok) (nn : Nat) (ys : List Value) (v : Value) I oI C oC D (m₂ : Str → Option Value) h tk (E' : Value → Shared → Prop), 0 ≤ k → k < kmax → NsObj oC m₂ → Fr h₀ L h m → News h₀ L h ((I, oI) :: (C, oC) :: (D, lst ys) :: gU (trayOf k t l2 nn)) → Off3 I C D (gU (trayOf k t l2 nn)) → ((@Ne Nat I C) ∧ (@Ne Nat I D) ∧ (@Ne Nat C D)) →
      wpAny (model prog w) A (eval elt (compEnvC scope cl C env)) (fun y s₂ => ∃ v tv t' nn' h' tk', y = .int v tv ∧ 0 ≤ v ∧ v < B ∧ s₂ = { s with heap := h', toks := tk' } ∧ Fr h₀ L h' m ∧ News h₀ L h' ((I, oI) :: (C, oC) :: (D, lst ys) :: gU (trayOf (k + 1) t' l2 nn'))) E' { s with heap := h, toks := tk }) :
    ∀ (c i : Nat) (ys : List Value) (ds : List Int) (k : Int) (t : Tok) (nn : Nat), 0 ≤ k → k + c ≤ kmax → IntsAre ys ds → Dig B ds →
      (∀ ys' ds' t' nn', IntsAre ys' ds' → Dig B ds' → ds'.length = ds.length + c → Fin ys' (gU (trayOf (k + c) t' l2 nn'))) →
      CompRest prog w A h₀ L m env elt x scope cl s (fun _ => True) P Fin c i ys (gU (trayOf k t l2 nn)) := by
  intro c
  induction c with
  | zero =>
    intro i ys ds k t nn _ _ hi hd hF
    refine CompRest.zero ?_
    have := hF ys ds t nn hi hd (by simp)
    simpa using this
  | succ c ih =>
    intro i ys ds k t nn hk hk2 hi hd hF
    refine CompRest.succ fun v I oI C oC D m₂ h tk E' _ hC _ F N off ne => ?_
    refine wpAny_mono (helt k t nn ys v I oI C oC D m₂ h tk E' hk (by omega) hC F N off ne) (fun y s₂ q => ?_) fun _ _ e => e
    obtain ⟨v, tv, t', nn', h', tk', rfl, hv0, hv1, rfl, F', N'⟩ := q
    refine ⟨h', tk', gU (trayOf (k + 1) t' l2 nn'), rfl, F', N', Off3.of (updOff U (trayOf k t l2 nn) _ (P := fun a => a ≠ I ∧ a ≠ C ∧ a ≠ D) off.mem), trivial, ?_⟩
    refine ih (i + 1) (ys ++ [.int v tv]) (ds ++ [v]) (k + 1) t' nn' (by omega) (by omega) (ints_snoc hi) (Dig.append.mpr ⟨hd, Dig.cons.mpr ⟨⟨hv0, hv1⟩, .nil⟩⟩) fun ys' ds' t9 n9 h1 h2 h3 => ?_
    have := hF ys' ds' t9 n9 h1 h2 (by rw [h3, List.length_append, List.length_cons, List.length_nil]; omega)
    rwa [show k + 1 + (c : Int) = k + ((c + 1 : Nat) : Int) by omega]
theorem mono_stop {α : Type} {M : Model} {A : Around} {t : Sem α} {Q : α → Shared → Prop} {E : Value → Shared → Prop} {s : Shared} (h : wpAny M A t (fun v s' => Stop (Q v s')) E s) : wpAny M A t Q E s := h
end Mine
end
section
open PySem PySem.W PyProof.Rows PySem.Calls
namespace Mine
theorem enterX {prog : Program} {w : World} {A : Around} {s : Shared} {K : Frag} {p : Program} {loose : List Str} {mean : ExcName → Option Value} {mg mb : Str → Option Value} {g : Heap} {lg : Led}
    {R : Result → Shared → Prop} {name qual : Str} {params : Arguments} {body : List Stmt} {scope : Scope} {cl : List (Str × Addr)} {doc pm ctv : Value} {c' f : Addr} {args : Args} (binds : List (Str × Value))
    (X : K.In g) (T : Top p loose mean mg mb g) (hg : g.StaysIn s.heap) (hgl : ∀ p ∈ lg, g.get? p.1 = none) (hl : LogIn s.heap lg)
    (ho : s.heap.get? f = some (fnMade name qual params body scope cl doc pm c' ctv)) (hcd : s.heap.CodeRec (.ref c') qual) (hroom : A.depth < recursionLimit)
    (hbind : BindsTo s (fnX name qual params body scope cl .none .none doc pm none (.ref c') ctv) args binds) (hloc : ∀ y ∈ binds, scope.names.lookup y.1 = some .local)
    (h : ∀ L' h₁ tk' h0, h0 = hideAll s.heap (lg.map (·.1)) → g.StaysIn h0 → K.In h0 → Top p loose mean mg mb h0 → Fr h0 L' h₁ (fun y => binds.reverse.lookup y) → News h0 L' h₁ lg → s.heap.StaysIn h₁ → 
      wpAny (model prog w) (A.deeper (envX qual scope L' f (.ref c') cl)) (execs body (envX qual scope L' f (.ref c') cl))
        (fun fl s' => R (.ok (.ret (match fl with | .ret v => v | _ => .none))) s') (fun _ _ => False)
        { s with heap := h₁, toks := tk' })
    (hco : scope.isCoroutine = false) (hgen : scope.isGenerator = false) (hk : scope.kind = .function)
    (hcell : ∀ x ∈ scope.names, x.2 ≠ .cell) : codeAny (model prog w) A (.call (.ref f) args) R s := by
  have st : g.StaysIn (hideAll s.heap (lg.map (·.1))) := fun b o e => hideAll_get _ (hg b o e) fun q => by
    obtain ⟨p, hp, c⟩ := List.mem_map.mp q
    have := hgl p hp
    rw [c, e] at this; cases this
  refine codeAny_call_def (fd := fnX name qual params body scope cl .none .none doc pm none (.ref c') ctv) (body := body) (binds := binds) hroom ho rfl (T.nolimit.keeps hg) hcd rfl hbind hcell hloc (fun h₁ hns hk₁ => ?_) hco hgen hk
  refine wpAny_mono (h s.heap.objs.size h₁ _ _ rfl st (X.keeps st) (T.keeps st) ⟨hns, fun b o e => hk₁ b o (of_hideAll _ e), Nat.le_of_eq (hideAll_size _ _)⟩ (fun p hp => ?_) hk₁) (fun _ _ x => x) fun _ _ x => x.elim
  exact ⟨hk₁ _ _ (hl p hp), Nat.ne_of_lt (Heap.lt_size (hl p hp)), hideAll_none _ (List.mem_map_of_mem hp)⟩

/-- a list is none of the cells -/
theorem LDo.cell {h : Heap} {lg : Led} {v : Value} {B x : Int} {c : Addr} {o : Obj} {u : Option Value} (d : LDo h lg v B x) (hc : h.get? c = some o) (hd : o.data = .cell u) : LDo h ((c, o) :: lg) v B x := by
  obtain ⟨a, vs, ns, e, ho, hl, r⟩ := d
  refine ⟨a, vs, ns, e, List.forall_mem_cons.mpr ⟨fun q => ?_, ho⟩, hl, r⟩
  obtain ⟨ol, h1, _, k, h3⟩ := hl
  have q' : c = a := q
  rw [← q', hc] at h1
  cases h1
  rw [hd] at h3
  cases h3
def AskLR (P : Addr) (lg : Led) (l : List (Int × Int)) : Prop := ∃ n vs tl, lg = (P, listOf (List.toArray vs) n) :: tl ∧ (∀ p ∈ tl, p.1 ≠ P) ∧ PairsAre tl vs l
def SqLR (P : Addr) (lg : Led) (l : List Int) : Prop := ∃ n vs, lg = [(P, listOf (List.toArray vs) n)] ∧ IntsAre vs l
/-- behind an append, whatever the ledger's tail is -/
theorem wp_append {prog : Program} {w : World} {A : Around} {E : Value → Shared → Prop} {s : Shared} {g : Heap} {L P : Addr} {m : Str → Option Value} {pre post : Led} {vs : List Value} {n : Nat} {x : Value} {Q : Value → Shared → Prop}
    (F : Fr g L s.heap m) (N : News g L s.heap (pre ++ (P, listOf vs.toArray n) :: post)) (h1 : ∀ p ∈ pre, p.1 ≠ P) (h2 : ∀ p ∈ post, p.1 ≠ P) (hsz : vs.length ≤ sizeLine)
    (h : ∀ h', Fr g L h' m → News g L h' (pre ++ (P, listOf (vs ++ [x]).toArray (n + 1)) :: post) → Q .none { s with heap := h' }) :
    wpAny (model prog w) A (call (.builtin "list.append") [.ref P, x]) Q E s := by
  have nt := N (P, listOf vs.toArray n) (List.mem_append_right _ (.head _))
  refine append_at (hsz := by rw [List.size_toArray]; exact hsz) nt.1 fun h' hs' ho' => ?_
  rw [List.push_toArray] at ho'
  exact h h' (F.change hs' nt.2.1 nt.2.2) (N.setIn h1 h2 hs' ho')
end Mine
end
section
open PySem PySem.W PyProof.Rows PySem.Calls
namespace Mine

theorem allLt_mem {d : Addr} : ∀ {l : List (Addr × Obj)}, AllLt d l → ∀ p ∈ l, p.1 < d
  | [], _, _, h => nomatch h
  | _ :: _, x, p, h => by
    rcases List.mem_cons.mp h with rfl | h
    · exact x.1
    · exact allLt_mem x.2 p h
theorem two_ok {prog : Program} {w : World} {p : Program} {loose : List Str} {mean : ExcName → Option Value} {mg mb : Str → Option Value}
   {name qual : Str} {params : Arguments} {body rest : List Stmt} {scope : Scope} {dV kV doc pm cdv ct oc : Value} {an od : Option Addr} {osl : Array (Option Value)}
   {fn fq : Str} {ps : Arguments} {fb : List Stmt} {fscope : Scope} {tsc : Option Scope} {bnd : Str} {pos : Pos} {fdoc fpm fct : Value} {c' fm cW cA P : Addr} {oW oA : Obj}
   {g₁ g : Heap} {wv : Int} {t4 : Tok} {wn : Nat}
   (X : (hd.heap_39 w.params).In g₁) (T : Top p loose mean mg mb g₁) (CH : CodeHd g₁ 167 165) (hg₁ : g₁.StaysIn g)
   (ho : (hd.heap_39 w.params).lookup 168 = some ⟨oc, od, .func (fnOf name qual params body scope dV kV doc pm an cdv ct), osl⟩)
   (hst : body.drop 5 = .FunctionDef fn ps fb [] none [] fscope tsc bnd pos :: rest)
   (hf : g.get? fm = some (fnMade fn fq ps fb fscope [(Str.ofString "w", cW), (Str.ofString "asked", cA)] fdoc fpm c' fct)) (hcd : g.CodeRec (.ref c') fq)
   (hW : g.get? cW = some oW) (hA : g.get? cA = some oA) (nW : g₁.get? cW = none) (nA : g₁.get? cA = none) (hne : cW ≠ cA)
   (dW : oW.data = .cell (some (.int wv t4))) (dA : oA.data = .cell (some (.ref P))) (hw2 : 2 ≤ wv) (hw5 : wv ≤ 5) (hwn : wn = wv.toNat) :
   MulOk prog w g (AskLR P) (2 ^ wn) wv fm := by
  have e := (show (hd.heap_39 w.params).lookup 168 = some _ by k_is).symm.trans ho
  injection e with e
  injection e with e1 e2 e3 e4
  injection e3 with e3
  injection e3
  subst_vars
  rename_i body_eq globals_eq closure_eq builtins_eq
  injection body_eq with body_eq
  subst body_eq
  clear globals_eq closure_eq builtins_eq ho
  simp only [List.drop_succ_cons, List.drop_zero, List.cons.injEq, Stmt.FunctionDef.injEq] at hst
  obtain ⟨⟨rfl, rfl, rfl, -, -, -, rfl, rfl, rfl, rfl⟩, rfl⟩ := hst
  intro dp un fr gd s lg l va vb x y tw hdp hg hgl hlg hLR hVA hVB lx ly hll
  obtain ⟨n, vs, tl, rfl, hneP, hpa⟩ := hLR
  intro R hR
  have hB2 : (2 : Int) ≤ 2 ^ wv.toNat := by
    have := pow_mono (show (1 : Int) ≤ 2 by omega) (show 1 ≤ wv.toNat by omega)
    omega
  have kA := hVA.cell (hg _ _ hA) dA
  have kB := hVB.cell (hg _ _ hA) dA
  replace kA := kA.cell (hg _ _ hW) dW
  replace kB := kB.cell (hg _ _ hW) dW
  refine' enterX (lg := (cW, oW) :: (cA, oA) :: (P, listOf vs.toArray n) :: tl) [(Str.ofString "a", va), (Str.ofString "b", vb), (Str.ofString "width", .int wv tw)] X T (fun b o e => hg _ _ (hg₁ _ _ e)) ?kg ?kl (hg _ _ hf) (hcd.keeps hg) ?k8 ?k9 ?kB ?_ ?c2 ?c3 ?c4 ?c5
  case kg => exact List.forall_mem_cons.mpr ⟨nW, List.forall_mem_cons.mpr ⟨nA, fun p hp => freshUp hg₁ (hgl p hp)⟩⟩
  case kl => exact List.forall_mem_cons.mpr ⟨hg _ _ hW, List.forall_mem_cons.mpr ⟨hg _ _ hA, hlg⟩⟩
  case k8 => (show dp < 1000); omega
  case k9 => exact BindsTo.of_eq rfl
  case kB => exact locs rfl
  case c2 => exact rfl
  case c3 => exact rfl
  case c4 => exact rfl
  case c5 => decide
  intro L h₁ tk h0 he0 hg0 X0 T0 F N hs1
  replace kA := kA.hide
  replace kB := kB.hide
  rw [← he0] at kA kB
  obtain ⟨ra, vas, nas, rfl, hla, hia, hxa, hna⟩ := id kA
  obtain ⟨rb, vbs, nbs, rfl, hlb, hib, hxb, hnb⟩ := id kB
  show wpAny _ _ _ _ _ _
  k_fold
  k_with_none
  k_with "call ref" => refine stop_of ?_
  k_with "call builtin:list.append" => refine stop_of ?_
  k_steps
  show wpAny _ _ _ _ _ _
  refine callI (whole_spec (B := 2 ^ wv.toNat) (by show dp + 1 < 900; omega) (X0.keeps F.keep) (T0.keeps F.keep) (kA.keeps F.keep).dl (by omega) hw5 rfl) F N fun t1 h' tk' F N => ?_
  clear hs1
  dsimp only
  k_steps
  show wpAny _ _ _ _ _ _
  refine callI (whole_spec (B := 2 ^ wv.toNat) (by show dp + 1 < 900; omega) (X0.keeps F.keep) (T0.keeps F.keep) (kB.keeps F.keep).dl (by omega) hw5 rfl) F N fun t2 h' tk' F N => ?_
  dsimp only
  k_steps
  show wpAny _ _ _ _ _ _
  rename Fr _ _ _ _ => F'
  rename News _ _ _ _ => N'
  rename (_ ∧ _ ∧ _ ∧ AllLt _ _) => hll
  obtain ⟨l1, l2, l3, l4⟩ := hll
  rename Addr => D
  have nPW : cW ≠ P := fun c => by
    have := hgl (P, listOf vs.toArray n) (.head _)
    rw [← c, hW] at this; cases this
  have nPA : cA ≠ P := fun c => by
    have := hgl (P, listOf vs.toArray n) (.head _)
    rw [← c, hA] at this; cases this
  have hlv := hpa.length
  refine wp_append (pre := [(D, pairOf x y t1 t2), (cW, oW), (cA, oA)]) (post := tl) F' N' (all3 (Ne.symm (Nat.ne_of_lt l3)) nPW nPA) hneP (by rw [hlv, sizeLine_eq]; omega) fun h2 F2 N2 => ?_
  clear F' N' 
  dsimp only
  k_steps
  show wpAny _ _ _ _ _ _
  refine callI (whole_spec (B := 2 ^ wv.toNat) (by show dp + 1 < 900; omega) (X0.keeps F2.keep) (T0.keeps F2.keep) (kA.keeps F2.keep).dl (by omega) hw5 rfl) F2 N2 fun t3 h' tk' F2 N2 => ?_
  dsimp only
  k_steps
  show wpAny _ _ _ _ _ _
  refine callI (whole_spec (B := 2 ^ wv.toNat) (by show dp + 1 < 900; omega) (X0.keeps F2.keep) (T0.keeps F2.keep) (kB.keeps F2.keep).dl (by omega) hw5 rfl) F2 N2 fun t4' h' tk' F2 N2 => ?_
  have x0 := hxa.nonneg (show 1 ≤ 2 ^ wv.toNat by omega)
  have y0 := hxb.nonneg (show 1 ≤ 2 ^ wv.toNat by omega)
  have hx50 : x < 2 ^ 50 := by
    refine Int.lt_of_lt_of_le lx ?_
    rw [← Int.pow_mul]
    exact pow_mono (by omega) (by omega)
  have hxy := mul_lt_pow (show 1 ≤ 2 ^ wv.toNat by omega) x0 y0 lx ly
  k_with "binaryOp Mult int int" => refine mul_int ?_ (IntMulOk.of_left (intBits_le_64 (by omega) (by omega)))
  dsimp only
  k_steps
  show wpAny _ _ _ _ _ _
  refine wpAny_call (limbs_spec (B := 2 ^ wv.toNat) (by show dp + 1 < 900; omega) (X0.keeps F2.keep) (T0.keeps F2.keep) (by omega) hw5 rfl hB2 hxy.1 (Int.lt_of_lt_of_le hxy.2 (pow_mono (by omega) (by decide))) _ fun r h' tk' hst hpost => ?_)
  have l4' := allLt_mem l4
  have fin := retM (lg' := (cW, oW) :: (cA, oA) :: (P, listOf (vs ++ [Value.ref D]).toArray (n + 1)) :: (D, pairOf x y t1 t2) :: tl) he0 F2 N2 (fun p hp => by
    simp only [List.mem_cons, List.cons_append, List.nil_append] at hp ⊢
    rcases hp with h | h | h | h | h <;> simp [h]) (fun q hq => by
    simp only [List.mem_cons] at hq
    rcases hq with rfl | rfl | rfl | hq
    · exact ⟨_, .head _, rfl⟩
    · exact ⟨_, .tail _ (.head _), rfl⟩
    · exact ⟨_, .tail _ (.tail _ (.head _)), rfl⟩
    · exact ⟨q, .tail _ (.tail _ (.tail _ (.tail _ hq))), rfl⟩) hst hpost
  obtain ⟨f1, f2, f3, a9, n9, vs9, ns9, rfl, f4, f5, f6⟩ := fin
  refine hR _ _ _ ((P, listOf (vs ++ [Value.ref D]).toArray (n + 1)) :: (D, pairOf x y t1 t2) :: tl) (fun b ob hb e => ?_) (fun p hp => f2 p (.tail _ (.tail _ hp))) (fun p hp => ?_) (fun q hq => ?_) ⟨⟨n + 1, vs ++ [Value.ref D], (D, pairOf x y t1 t2) :: tl, rfl, ?_, ?_⟩, a9, n9, vs9, ns9, rfl, f4, fun p hp => f5 p (.tail _ (.tail _ hp)), f6⟩
  · by_cases q1 : b = cW
    · subst q1
      have := hg _ _ hW
      rw [e] at this
      cases this
      exact f2 _ (.head _)
    · by_cases q2 : b = cA
      · subst q2
        have := hg _ _ hA
        rw [e] at this
        cases this
        exact f2 _ (.tail _ (.head _))
      · exact f1 b ob (List.forall_mem_cons.mpr ⟨Ne.symm q1, List.forall_mem_cons.mpr ⟨Ne.symm q2, hb⟩⟩) e
  · simp only [List.mem_cons] at hp
    rcases hp with rfl | rfl | hp
    · exact .inl ⟨_, .head _, rfl⟩
    · refine (f3 _ (.tail _ (.tail _ (.tail _ (.head _))))).imp (fun ⟨q, hq, e⟩ => ?_) id
      have e' : q.1 = D := e
      simp only [List.mem_cons] at hq
      rcases hq with rfl | rfl | rfl | hq
      · exact absurd e' (Nat.ne_of_lt l1)
      · exact absurd e' (Nat.ne_of_lt l2)
      · exact absurd e' (Nat.ne_of_lt l3)
      · exact absurd e' (Nat.ne_of_lt (l4' q hq))
    · exact .inl ⟨p, .tail _ hp, rfl⟩
  · simp only [List.mem_cons] at hq
    rcases hq with rfl | hq
    · exact ⟨_, .head _, rfl⟩
    · exact ⟨q, .tail _ (.tail _ hq), rfl⟩
  · exact List.forall_mem_cons.mpr ⟨(Nat.ne_of_lt l3).symm, hneP⟩
  · exact (hpa.mono fun p hp => .tail _ hp).append (.cons (.head _) .nil)
end Mine
end
section
open PySem PySem.W PyProof.Rows PySem.Calls
namespace Mine

theorem one_ok {prog : Program} {w : World} {p : Program} {loose : List Str} {mean : ExcName → Option Value} {mg mb : Str → Option Value}
   {name qual : Str} {params : Arguments} {body rest : List Stmt} {scope : Scope} {dV kV doc pm cdv ct oc : Value} {an od : Option Addr} {osl : Array (Option Value)}
   {fn fq : Str} {ps : Arguments} {fb : List Stmt} {fscope : Scope} {tsc : Option Scope} {bnd : Str} {pos : Pos} {fdoc fpm fct : Value} {c' fm cW cA P : Addr} {oW oA : Obj}
   {g₁ g : Heap} {wv : Int} {t4 : Tok} {wn : Nat}
   (X : (hd.heap_39 w.params).In g₁) (T : Top p loose mean mg mb g₁) (CH : CodeHd g₁ 167 165) (hg₁ : g₁.StaysIn g)
   (ho : (hd.heap_39 w.params).lookup 168 = some ⟨oc, od, .func (fnOf name qual params body scope dV kV doc pm an cdv ct), osl⟩)
   (hst : body.drop 6 = .FunctionDef fn ps fb [] none [] fscope tsc bnd pos :: rest)
   (hf : g.get? fm = some (fnMade fn fq ps fb fscope [(Str.ofString "w", cW), (Str.ofString "squares", cA)] fdoc fpm c' fct)) (hcd : g.CodeRec (.ref c') fq)
   (hW : g.get? cW = some oW) (hA : g.get? cA = some oA) (nW : g₁.get? cW = none) (nA : g₁.get? cA = none) (hne : cW ≠ cA)
   (dW : oW.data = .cell (some (.int wv t4))) (dA : oA.data = .cell (some (.ref P))) (hw2 : 2 ≤ wv) (hw5 : wv ≤ 5) (hwn : wn = wv.toNat) :
   SqrOk prog w g (SqLR P) (2 ^ wn) wv fm := by
  have e := (show (hd.heap_39 w.params).lookup 168 = some _ by k_is).symm.trans ho
  injection e with e
  injection e with e1 e2 e3 e4
  injection e3 with e3
  injection e3
  subst_vars
  rename_i body_eq globals_eq closure_eq builtins_eq
  injection body_eq with body_eq
  subst body_eq
  clear globals_eq closure_eq builtins_eq ho
  simp only [List.drop_succ_cons, List.drop_zero, List.cons.injEq, Stmt.FunctionDef.injEq] at hst
  obtain ⟨⟨rfl, rfl, rfl, -, -, -, rfl, rfl, rfl, rfl⟩, rfl⟩ := hst
  intro dp un fr gd s lg l va x tw hdp hg hgl hlg hLR hVA lx hll
  obtain ⟨n, vs, rfl, hpa⟩ := hLR
  intro R hR
  have hB2 : (2 : Int) ≤ 2 ^ wv.toNat := by
    have := pow_mono (show (1 : Int) ≤ 2 by omega) (show 1 ≤ wv.toNat by omega)
    omega
  have kA := hVA.cell (hg _ _ hA) dA
  replace kA := kA.cell (hg _ _ hW) dW
  refine' enterX (lg := [(cW, oW), (cA, oA), (P, listOf vs.toArray n)]) [(Str.ofString "a", va), (Str.ofString "width", .int wv tw)] X T (fun b o e => hg _ _ (hg₁ _ _ e)) ?kg ?kl (hg _ _ hf) (hcd.keeps hg) ?k8 ?k9 ?kB ?_ ?c2 ?c3 ?c4 ?c5
  case kg => exact List.forall_mem_cons.mpr ⟨nW, List.forall_mem_cons.mpr ⟨nA, fun p hp => freshUp hg₁ (hgl p hp)⟩⟩
  case kl => exact List.forall_mem_cons.mpr ⟨hg _ _ hW, List.forall_mem_cons.mpr ⟨hg _ _ hA, hlg⟩⟩
  case k8 => (show dp < 1000); omega
  case k9 => exact BindsTo.of_eq rfl
  case kB => exact locs rfl
  case c2 => exact rfl
  case c3 => exact rfl
  case c4 => exact rfl
  case c5 => decide
  intro L h₁ tk h0 he0 hg0 X0 T0 F N hs1
  replace kA := kA.hide
  rw [← he0] at kA
  obtain ⟨ra, vas, nas, rfl, hla, hia, hxa, hna⟩ := id kA
  have nPW : cW ≠ P := fun c => by
    have := hgl (P, listOf vs.toArray n) (.head _)
    rw [← c, hW] at this; cases this
  have nPA : cA ≠ P := fun c => by
    have := hgl (P, listOf vs.toArray n) (.head _)
    rw [← c, hA] at this; cases this
  have hlv := hpa.length
  have x0 := hxa.nonneg (show 1 ≤ 2 ^ wv.toNat by omega)
  have hx50 : x < 2 ^ 50 := by
    refine Int.lt_of_lt_of_le lx ?_
    rw [← Int.pow_mul]
    exact pow_mono (by omega) (by omega)
  have hxy := mul_lt_pow (show 1 ≤ 2 ^ wv.toNat by omega) x0 x0 lx lx
  show wpAny _ _ _ _ _ _
  k_fold
  k_with_none
  k_with "call ref" => refine stop_of ?_
  k_with "call builtin:list.append" => refine stop_of ?_
  k_steps
  show wpAny _ _ _ _ _ _
  refine callI (whole_spec (B := 2 ^ wv.toNat) (by show dp + 1 < 900; omega) (X0.keeps F.keep) (T0.keeps F.keep) (kA.keeps F.keep).dl (by omega) hw5 rfl) F N fun t1 h' tk' F N => ?_
  clear hs1
  dsimp only
  k_steps
  show wpAny _ _ _ _ _ _
  refine wp_append (pre := [(cW, oW), (cA, oA)]) (post := []) F N (all2 nPW nPA) (fun p hp => nomatch hp) (by rw [hlv, sizeLine_eq]; omega) fun h2 F2 N2 => ?_
  clear F N
  dsimp only
  k_steps
  show wpAny _ _ _ _ _ _
  refine callI (whole_spec (B := 2 ^ wv.toNat) (by show dp + 1 < 900; omega) (X0.keeps F2.keep) (T0.keeps F2.keep) (kA.keeps F2.keep).dl (by omega) hw5 rfl) F2 N2 fun t3 h' tk' F2 N2 => ?_
  dsimp only
  k_steps
  show wpAny _ _ _ _ _ _
  have hsq : x ^ Int.toNat 2 = x * x := by
    show x ^ 2 = x * x
    rw [Int.pow_succ, Int.pow_succ, Int.pow_zero, Int.one_mul]
  rw [hsq]
  refine wpAny_call (limbs_spec (B := 2 ^ wv.toNat) (by show dp + 1 < 900; omega) (X0.keeps F2.keep) (T0.keeps F2.keep) (by omega) hw5 rfl hB2 hxy.1 (Int.lt_of_lt_of_le hxy.2 (pow_mono (by omega) (by decide))) _ fun r h' tk' hst hpost => ?_)
  have fin := retM (lg' := [(cW, oW), (cA, oA), (P, listOf (vs ++ [Value.int x t1]).toArray (n + 1))]) he0 F2 N2 (fun p hp => hp) (fun q hq => by
    simp only [List.mem_cons, List.not_mem_nil, or_false] at hq
    rcases hq with rfl | rfl | rfl
    · exact ⟨_, .head _, rfl⟩
    · exact ⟨_, .tail _ (.head _), rfl⟩
    · exact ⟨_, .tail _ (.tail _ (.head _)), rfl⟩) hst hpost
  obtain ⟨f1, f2, f3, a9, n9, vs9, ns9, rfl, f4, f5, f6⟩ := fin
  refine hR _ _ _ [(P, listOf (vs ++ [Value.int x t1]).toArray (n + 1))] (fun b ob hb e => ?_) (fun p hp => f2 p (.tail _ (.tail _ hp))) (fun p hp => ?_) (fun q hq => ?_) ⟨⟨n + 1, vs ++ [Value.int x t1], rfl, ints_snoc hpa⟩, a9, n9, vs9, ns9, rfl, f4, fun p hp => f5 p (.tail _ (.tail _ hp)), f6⟩
  · by_cases q1 : b = cW
    · subst q1
      have := hg _ _ hW
      rw [e] at this
      cases this
      exact f2 _ (.head _)
    · by_cases q2 : b = cA
      · subst q2
        have := hg _ _ hA
        rw [e] at this
        cases this
        exact f2 _ (.tail _ (.head _))
      · exact f1 b ob (List.forall_mem_cons.mpr ⟨Ne.symm q1, List.forall_mem_cons.mpr ⟨Ne.symm q2, hb⟩⟩) e
  · rw [List.mem_singleton.mp hp]
    exact .inl ⟨_, .head _, rfl⟩
  · rw [List.mem_singleton.mp hq]
    exact ⟨_, .head _, rfl⟩
end Mine
end
section
open PySem PySem.W PyProof.Rows PySem.Calls
namespace Mine

def LoopNews (L nb tr l2 : Nat) (vf ys : List Value) (nf : Nat) (k : Int) (t : Tok) (n : Nat) (o1 o2 o3 o4 : Obj) : Led :=
  [(nb, listOf (List.toArray vf) nf), (tr, trayOf k t l2 n), (l2, LCg.lst ys), (L + 1 + 1 + 1 + 1, o4), (L + 1 + 1 + 1, o3), (L + 1 + 1, o2), (L + 1, o1), (165, tabObj #[])]
def LoopInv (h₀ : Heap) (L nb tr l2 : Nat) (ys : List Value) (o1 o2 o3 o4 : Obj) (wn i : Nat) (m : Str → Option Value) (nx : Led) : Prop :=
  ∃ vf nf nsf k t n, nx = LoopNews L nb tr l2 vf ys nf k t n o1 o2 o3 o4 ∧ m (Str.ofString "numbers") = some (.ref nb) ∧ 0 ≤ k ∧ k ≤ 1 + 8 * (i : Int) ∧ IntsAre vf nsf ∧ nsf.length = i ∧ ∀ x ∈ nsf, 0 ≤ x ∧ sz wn x ≤ 7

theorem len7 {v : Int} {n : Nat} (h : n = 0 + (v - 0).toNat) (hv : v < 8) : n ≤ 7 := by omega
theorem kNext0 {k v : Int} (h : 0 ≤ k) : 0 ≤ k + 1 + ((v - 0).toNat : Int) := by omega
theorem kNext {k v : Int} {i : Nat} (h : k ≤ 1 + 8 * (i : Int)) (h0 : 0 ≤ v) (h1 : v < 8) : k + 1 + ((v - 0).toNat : Int) ≤ 1 + 8 * ((i + 1 : Nat) : Int) := by omega
theorem turnUpd {L nb tr l2 I : Nat} {oI ob ot o2' c4 c3 c2 c1 t5 : Obj} (l0 : 165 < L) (q0 : L + 1 + 1 + 1 + 1 < tr) (q2 : l2 < tr) (q3 : tr < nb) (q4 : @Ne Nat tr I) :
    UpdF tr ot [(I, oI), (nb, ob), (tr, ot), (l2, o2'), (L + 1 + 1 + 1 + 1, c4), (L + 1 + 1 + 1, c3), (L + 1 + 1, c2), (L + 1, c1), (165, t5)] (fun o => [(I, oI), (nb, ob), (tr, o), (l2, o2'), (L + 1 + 1 + 1 + 1, c4), (L + 1 + 1 + 1, c3), (L + 1 + 1, c2), (L + 1, c1), (165, t5)]) := by k_updF
theorem restNe {L nb tr l2 : Nat} {ot o2' c4 c3 c2 c1 t5 : Obj} (l0 : 165 < L) (q0 : L + 1 + 1 + 1 + 1 < tr) (q2 : l2 < tr) (q3 : tr < nb) :
    ∀ p ∈ [(tr, ot), (l2, o2'), (L + 1 + 1 + 1 + 1, c4), (L + 1 + 1 + 1, c3), (L + 1 + 1, c2), (L + 1, c1), (165, t5)], (p : Addr × Obj).1 ≠ nb := by
  repeat' (refine List.forall_mem_cons.mpr ⟨by k_ne, ?_⟩)
  exact List.forall_mem_nil _
theorem law_for {prog : Program} {w : World} {dp un : Nat} {fr : Option (List Env)} {gd : Option (List Code)} {s : Shared} {p : Program} {loose : List Str} {mean : ExcName → Option Value} {mg mb : Str → Option Value}
   {name qual : Str} {params : Arguments} {body rest : List Stmt} {st : Stmt} {scope : Scope} {dV kV doc pm cdv ct oc : Value} {an od : Option Addr} {osl : Array (Option Value)} {f : Addr} {L nb tr l2 : Nat}
   {h₀ : Heap} {ys : List Value} {zs : List Int} {o1 o2 o3 o4 : Obj} {m₀ : Str → Option Value} {wv : Int} {t t4 : Tok} {n wn : Nat}
   (hdp : dp < 500) (X : (hd.heap_39 w.params).In h₀) (T : Top p loose mean mg mb h₀) (l0 : 165 < L)
   (hI8 : IntsAre ys zs) (hz : zs.length ≤ 100)
   (ho : (hd.heap_39 w.params).lookup 168 = some ⟨oc, od, .func (fnOf name qual params body scope dV kV doc pm an cdv ct), osl⟩)
   (hst : body.drop 3 = st :: rest)
   (q0 : L + 1 + 1 + 1 + 1 < tr) (q2 : l2 < tr) (q3 : tr < nb)
   (F : Fr h₀ L s.heap m₀) (hm : m₀ (Str.ofString "numbers") = some (.ref nb))
   (N : News h₀ L s.heap (LoopNews L nb tr l2 [] ys 0 (0 + 1) t n o1 o2 o3 o4))
   (d1 : o1.data = .cell (some (.ref tr))) (d4 : o4.data = .cell (some (.int wv t4))) (hw2 : 2 ≤ wv) (hw5 : wv ≤ 5) (hwn : wn = wv.toNat) :
   wpAny (model prog w) ((AR dp un fr gd).deeper (envOfC qual scope L f cdv)) (exec st (envOfC qual scope L f cdv)) (fun fl s' => fl = .next ∧ ∃ h' tk' m' nx, s' = { s with heap := h', toks := tk' } ∧ Fr h₀ L h' m' ∧ News h₀ L h' nx ∧ LoopInv h₀ L nb tr l2 ys o1 o2 o3 o4 wn 2 m' nx) (fun _ _ => False) s := by
  have e := (show (hd.heap_39 w.params).lookup 168 = some _ by k_is).symm.trans ho
  injection e with e
  injection e with e1 e2 e3 e4
  injection e3 with e3
  injection e3
  subst_vars
  rename_i body_eq globals_eq closure_eq builtins_eq
  injection body_eq with body_eq
  subst body_eq
  clear globals_eq closure_eq builtins_eq ho
  simp only [List.drop_succ_cons, List.drop_zero, List.cons.injEq] at hst
  obtain ⟨rfl, rfl⟩ := hst
  show wpAny _ _ _ _ _ _
  k_with_none
  with_unfolding_all refine' For_invVF F ?k1 ?k2 ?_
  case k1 => exact rfl
  case k2 => exact rfl
  k_with "call ref" => refine stop_of ?_
  k_with "pyIter ref" => refine stop_of ?_
  k_steps
  show wpAny _ _ _ _ _ _
  rename Fr _ _ _ _ => F'
  rename News _ _ _ _ => N'

  with_unfolding_all refine' loopC (LoopInv h₀ L nb tr l2 ys o1 o2 o3 o4 wv.toNat) (by rfl) (by assumption) (by decide) (n := 2) (by decide) F' N' ?start ?turn ?done
  case start => exact ⟨[], 0, [], _, _, _, rfl, hm, by omega, by omega, .nil, rfl, by simp⟩
  case done =>
    intro m₁ nx h tk hJ F N
    exact ⟨rfl, h, tk, m₁, nx, rfl, F, N, hJ⟩
  case turn =>
    rintro i ti m₁ news₁ I oI h tk hi ⟨vf, nf, nsf, k, t, n, rfl, hm1, hk0, hk1, hvi, hlen, hall⟩ hI F N
    have q4 : @Ne Nat nb I ∧ @Ne Nat tr I := ⟨hI (nb, listOf (List.toArray vf) nf) (.head _), hI (tr, trayOf k t l2 n) (.tail _ (.head _))⟩
    unfold LoopNews at N
    replace F := frAt (L := L) (ps := [(Str.ofString "numbers", Value.ref nb)]) F (fun p hp => by rw [List.mem_singleton.mp hp]; exact hm1)
    dsimp only [kstB] at F
    change News h₀ L h _ at N
    k_with "spliced" => refine stop_of ?_
    show wpAny _ _ _ _ _ _
    k_steps
    show wpAny _ _ _ _ _ _
    refine spliced_more ?_
    k_steps
    show wpAny _ _ _ _ _ _
    refine spliced_more ?_
    k_with_none
    k_with "call ref" => refine stop_of ?_
    refine LCg.ListComp_U (F₀ := F) (by with_unfolding_all rfl) (by decide) (by rfl) (by decide) (by rfl) (mono_stop ?_)
    k_steps
    show wpAny _ _ _ _ _ _
    refine' wp_draw (k := k) (many := 8) (o2 := LCg.lst ys) (ys := ys) (zs := zs) (by omega) X T F N ?U ?m rfl ⟨_, rfl⟩ hI8 (by omega) (by omega) (by omega) (by omega) hz fun v tv h' tk' t' n' hv0 hv1 F N => ?_
    case U => exact turnUpd l0 q0 q2 q3 q4.2
    case m => k_mem
    dsimp only at N ⊢
    k_steps
    rename Fr _ _ _ _ => F'
    rename News _ _ _ _ => N'
    rename IsRange _ _ _ _ _ _ _ _ => hr
    have hw1 : 1 ≤ wv.toNat := by omega
    have hwv1 : 1 ≤ wv := by omega
    have hp5 : (2 : Int) ^ wv.toNat ≤ 2 ^ 5 := pow_mono (by omega) (by omega)
    have hp1 : (1 : Int) ≤ 2 ^ wv.toNat := pow_pos' (by omega) _
    have UU : UpdF tr (trayOf (k + 1) t' l2 n') [(I, oI), (nb, W.listOf vf.toArray nf), (tr, trayOf (k + 1) t' l2 n'), (l2, LCg.lst ys), (L + 1 + 1 + 1 + 1, o4), (L + 1 + 1 + 1, o3), (L + 1 + 1, o2), (L + 1, o1), (165, tabObj #[])] (fun o => [(I, oI), (nb, W.listOf vf.toArray nf), (tr, o), (l2, LCg.lst ys), (L + 1 + 1 + 1 + 1, o4), (L + 1 + 1 + 1, o3), (L + 1 + 1, o2), (L + 1, o1), (165, tabObj #[])]) := turnUpd l0 q0 q2 q3 q4.2
    refine LCg.CompSrc.range (by rfl) F' N' hr (by exact small_one (by omega) (by omega) (by omega) (by omega)) (rangeSize_nat _ _) (by rw [sizeLine_eq]; omega) fun g => ?_
    refine comp_draws (B := 2 ^ wv.toNat) (tr := tr) (l2 := l2) (gU := fun o => [(I, oI), (nb, W.listOf vf.toArray nf), (tr, o), (l2, LCg.lst ys), (L + 1 + 1 + 1 + 1, o4), (L + 1 + 1 + 1, o3), (L + 1 + 1, o2), (L + 1, o1), (165, tabObj #[])]) UU 100 ?helt (v - 0).toNat 0 [] [] (k + 1) t' n' (by omega) (by omega) .nil Dig.nil (fun ys' ds' t9 n9 h1 h2 h3 => ?_)
    case helt =>
      clear F N F' N'
      intro k t nn ys1 v1 I1 oI1 C oC D m₂ h tk E' hk0 hk1 hC F N off ne
      have o1' := off.mem _ (updMem UU _)
      k_with_none
      k_with "call ref" => refine stop_of ?_
      k_steps
      show wpAny _ _ _ _ _ _
      refine' wp_draw (k := k) (many := 2 ^ wv.toNat) (o2 := LCg.lst ys) (ys := ys) (zs := zs) (gU := fun o => (I1, oI1) :: (C, oC) :: (D, LCg.lst ys1) :: [(I, oI), (nb, W.listOf vf.toArray nf), (tr, o), (l2, LCg.lst ys), (L + 1 + 1 + 1 + 1, o4), (L + 1 + 1 + 1, o3), (L + 1 + 1, o2), (L + 1, o1), (165, tabObj #[])]) (by omega) X T F N ?U ?m rfl ⟨_, rfl⟩ hI8 (by omega) (by omega) (by omega) (by omega) hz fun v tv h' tk' t' n' hv0 hv1 F N => ?_
      case U => exact .tail (Ne.symm o1'.1) (.tail (Ne.symm o1'.2.1) (.tail (Ne.symm o1'.2.2) (updAt UU _)))
      case m => k_mem
      exact ⟨v, tv, t', n', h', tk', rfl, hv0, hv1, rfl, F, N⟩
    clear F N F' N'
    intro D h tk F N off
    rw [List.length_nil] at h3
    dsimp only at F N ⊢
    simp only [LCg.Off1, and_true] at off
    k_with_none
    k_with "call ref" => refine stop_of ?_
    k_with "call builtin:list.append" => refine stop_of ?_
    try k_fold
    k_steps
    show wpAny _ _ _ _ _ _
    have hvb := val_bounds hp1 h2
    have h7 := len7 h3 hv1
    have hsz : sz wv.toNat (val (2 ^ wv.toNat) ds') ≤ 7 := (sz_le hw1 hvb.1).mpr (Int.lt_of_lt_of_le hvb.2 (pow_mono hp1 h7))
    refine wpAny_call (whole_spec (B := 2 ^ wv.toNat) (by show dp + 1 < 900; omega) (X.keeps F.keep) (T.keeps F.keep) (dlNews N (items := ys'.toArray) (by k_mem) h1 h2 rfl (Nat.le_trans h7 (by decide))) hwv1 hw5 rfl _ fun r h' tk' hst hpost => ?_)
    obtain ⟨tv, rfl⟩ := hpost
    replace F := F.after hst
    replace N := newsSub (l' := [(I, oI), (nb, W.listOf vf.toArray nf), (tr, trayOf (k + 1 + ((v - 0).toNat : Int)) t9 l2 n9), (l2, LCg.lst ys), (L + 1 + 1 + 1 + 1, o4), (L + 1 + 1 + 1, o3), (L + 1 + 1, o2), (L + 1, o1), (165, tabObj #[])]) (newsStay N hst) (fun p hp => .tail _ hp)
    generalize val (2 ^ wv.toNat) ds' = xv at *
    dsimp only
    k_steps
    show wpAny _ _ _ _ _ _
    refine wp_append (pre := [(I, oI)]) F N (all1 (Ne.symm q4.1)) (restNe l0 q0 q2 q3) (by rw [hvi.length, hlen, sizeLine_eq]; omega) fun h9 F' N' => ?_
    dsimp only
    k_steps
    refine ⟨rfl, _, _, _, LoopNews L nb tr l2 (vf ++ [Value.int xv tv]) ys (nf + 1) (k + 1 + ((v - 0).toNat : Int)) t9 n9 o1 o2 o3 o4, rfl, F', N', fun p hp => ?_, _, _, nsf ++ [xv], _, _, _, rfl, (if_neg (by decide)).trans (if_pos rfl), kNext0 hk0, kNext hk1 hv0 hv1, ints_snoc hvi, by simp [hlen], fun x hx => ?_⟩
    · rcases List.mem_cons.mp hp with rfl | hp
      · exact q4.1
      · rcases List.mem_cons.mp hp with rfl | hp
        · exact q4.2
        · exact hI p (.tail _ (.tail _ hp))
    · rcases List.mem_append.mp hx with hx | hx
      · exact hall x hx
      · rw [List.mem_singleton.mp hx]
        exact ⟨hvb.1, hsz⟩
end Mine
end
section
open PySem PySem.W PyProof.Rows PySem.Calls
namespace Mine

/-- pairs as the kit's data -/
def pairDat (p : Int × Int) : Dat := .tuple [.int p.1, .int p.2]
theorem PairsAre.dat {tl : Led} {vs : List Value} {l : List (Int × Int)} (x : PairsAre tl vs l) : DatAll tl vs (l.map pairDat) := by
  induction x with
  | nil => exact .nil
  | cons hm _ ih => exact .cons (.tuple (vs := [.int _ _, .int _ _]) hm (.cons (.int _ _) (.cons (.int _ _) .nil))) ih
theorem pairDat_ok {l : List (Int × Int)} : ∀ d ∈ l.map pairDat, kqdOk 8 d = true := by
  intro d hd
  obtain ⟨p, _, rfl⟩ := List.mem_map.mp hd
  simp [pairDat, kqdOk]

/-- the ground of a call that turns one list of the ledger -/
theorem groundP {g h : Heap} {L P : Addr} {m : Str → Option Value} {news : Led} {o : Obj} (F : Fr g L h m) (N : News g L h (news ++ [(P, o)])) (ho : ∀ p ∈ news, p.1 ≠ P) :
    g.StaysIn (hideAll h [P]) ∧ (∀ p ∈ news, (hideAll h [P]).get? p.1 = some p.2) ∧ (∀ p ∈ [(P, o)], (hideAll h [P]).get? p.1 = none) ∧ (hideAll h [P]).StaysIn h ∧ (∀ p ∈ news, Off [(P, o)] p.1) ∧ LogIn h [(P, o)] := by
  have nP := N (P, o) (List.mem_append_right _ (.head _))
  refine ⟨fun b ob e => hideAll_get _ (F.keep _ _ e) fun q => ?_, fun p hp => hideAll_get _ (N p (List.mem_append_left _ hp)).1 fun q => ho p hp (List.mem_singleton.mp q), fun p hp => ?_, fun b ob e => of_hideAll _ e, fun p hp => all1 (Ne.symm (ho p hp)), all1 (a := (P, o)) nP.1⟩
  · rw [List.mem_singleton.mp q, nP.2.2] at e; cases e
  · rw [List.mem_singleton.mp hp]; exact hideAll_none _ (.head _)
theorem codeRecP {h : Heap} {P c : Addr} {q : Str} (x : h.CodeRec (.ref c) q) (hc : c ≠ P) : (hideAll h [P]).CodeRec (.ref c) q := by
  obtain ⟨c', oc, vs, t, e, h1, r⟩ := x
  cases e
  exact ⟨c, oc, vs, t, rfl, hideAll_get _ h1 fun q => hc (List.mem_singleton.mp q), r⟩
theorem pairs_ne_same {prog : Program} {w : World} {A : Around} {E : Value → Shared → Prop} {s : Shared} {h₀ : Heap} {L : Addr} {news ta tb : Led} {Q : Value → Shared → Prop} {l : List (Int × Int)} {a b : Addr} {va vb : List Value} {na nb : Nat}
    (N : News h₀ L s.heap news) (ma : (a, listOf va.toArray na) ∈ news) (pa : PairsAre ta va l) (sa : ∀ p ∈ ta, p ∈ news) (mb : (b, listOf vb.toArray nb) ∈ news) (pb : PairsAre tb vb l) (sb : ∀ p ∈ tb, p ∈ news) (hu : A.units + 64 < cLine)
    (h : Q (.bool false) s) : wpAny (model prog w) A (compareOp .NotEq (.ref a) (.ref b)) Q E s := by
  refine kqd_ne N ma rfl rfl pa.dat sa mb rfl rfl pb.dat sb pairDat_ok pairDat_ok hu ?_
  simpa using h
theorem law_mid {prog : Program} {w : World} {dp un : Nat} {fr : Option (List Env)} {gd : Option (List Code)} {s : Shared} {p : Program} {loose : List Str} {mean : ExcName → Option Value} {mg mb : Str → Option Value}
   {Q : Flow → Shared → Prop} {name qual : Str} {params : Arguments} {body rest5 rest6 : List Stmt} {scope : Scope} {dV kV doc pm cdv ct oc : Value} {an od : Option Addr} {osl : Array (Option Value)} {f : Addr} {L f1 c1 f2 c2 S P : Nat}
   {na1 na2 q1 q2 : Str} {ps1 ps2 : Arguments} {fb1 fb2 : List Stmt} {sc1 sc2 : Scope} {tsc1 tsc2 : Option Scope} {bn1 bn2 : Str} {pos1 pos2 : Pos} {doc1 doc2 pm1 pm2 ct1 ct2 : Value} {oc1 oc2 : Obj}
   {h₀ : Heap} {o2 o3 o4 : Obj} {m₀ : Str → Option Value} {wv x y least : Int} {t4 tx ty tl tc1 tc2 : Tok} {u1 u2 pT : Array Value} {wn : Nat}
   (hdp : dp < 500) (hun : un < 1000) (X : (hd.heap_39 w.params).In h₀) (T : Top p loose mean mg mb h₀) (CH : CodeHd h₀ 167 165)
   (ho : (hd.heap_39 w.params).lookup 168 = some ⟨oc, od, .func (fnOf name qual params body scope dV kV doc pm an cdv ct), osl⟩)
   (hst5 : body.drop 5 = .FunctionDef na2 ps2 fb2 [] none [] sc2 tsc2 bn2 pos2 :: rest5)
   (hst6 : body.drop 6 = .FunctionDef na1 ps1 fb1 [] none [] sc1 tsc1 bn1 pos1 :: rest6)
   (F : Fr h₀ L s.heap m₀) (hm : ∀ p ∈ [(Str.ofString "y", Value.int y ty), (Str.ofString "x", .int x tx), (Str.ofString "by_one", .ref f1), (Str.ofString "by_two", .ref f2), (Str.ofString "least", .int least tl)], m₀ p.1 = some p.2)
   (N : News h₀ L s.heap ([(f1, fnMade na1 q1 ps1 fb1 sc1 [(Str.ofString "w", L + 1 + 1 + 1 + 1), (Str.ofString "squares", L + 1 + 1 + 1)] doc1 pm1 c1 ct1), (c1, oc1), (f2, fnMade na2 q2 ps2 fb2 sc2 [(Str.ofString "w", L + 1 + 1 + 1 + 1), (Str.ofString "asked", L + 1 + 1)] doc2 pm2 c2 ct2), (c2, oc2), (S, listOf #[] 0), (L + 1 + 1 + 1 + 1, o4), (L + 1 + 1 + 1, o3), (L + 1 + 1, o2), (165, tabObj pT)] ++ [(P, listOf #[] 0)]))
   (hP : ∀ a ∈ [f1, c1, f2, c2, S, L + 1 + 1 + 1 + 1, L + 1 + 1 + 1, L + 1 + 1, 165], a ≠ P) (hS : ∀ a ∈ [f1, c1, f2, c2, L + 1 + 1 + 1 + 1, L + 1 + 1 + 1, L + 1 + 1, 165], a ≠ S)
   (dc1 : oc1.data = .fields u1) (vc1 : u1[1]? = some (.str q1 tc1)) (dc2 : oc2.data = .fields u2) (vc2 : u2[1]? = some (.str q2 tc2))
   (d2 : o2.data = .cell (some (.ref P))) (d3 : o3.data = .cell (some (.ref S))) (d4 : o4.data = .cell (some (.int wv t4))) (hw2 : 2 ≤ wv) (hw5 : wv ≤ 5) (hwn : wn = wv.toNat)
   (x0 : 0 ≤ x) (y0 : 0 ≤ y) (hsx : sz wn x ≤ 7) (hsy : sz wn y ≤ 7)
   (hQ : ∀ h' tk' m' news', Fr h₀ L h' m' → News h₀ L h' news' → GrownAt 165 h' → Q (.ret (.bool true)) { s with heap := h', toks := tk' }) :
   wpAny (model prog w) ((AR dp un fr gd).deeper (envOfC qual scope L f cdv)) (execs (body.drop 8) (envOfC qual scope L f cdv)) Q (fun _ _ => False) s := by
  have ho' := ho
  have hst5' := hst5
  have hst6' := hst6
  have e := (show (hd.heap_39 w.params).lookup 168 = some _ by k_is).symm.trans ho
  injection e with e
  injection e with e1 e2 e3 e4
  injection e3 with e3
  injection e3
  subst_vars
  rename_i body_eq globals_eq closure_eq builtins_eq
  injection body_eq with body_eq
  subst body_eq
  clear globals_eq closure_eq builtins_eq ho hst5 hst6
  simp only [List.drop_succ_cons, List.drop_zero]
  replace F := frOf _ F hm
  dsimp only [kstB] at F
  show wpAny _ _ _ _ _ _
  k_with_none
  k_with "call ref" => refine stop_of ?_
  have hB2 : (2 : Int) ≤ 2 ^ wv.toNat := by
    have := pow_mono (show (1 : Int) ≤ 2 by omega) (show 1 ≤ wv.toNat by omega)
    omega
  have B1 : (1 : Int) ≤ 2 ^ wv.toNat := by omega
  have lx := lt_of_sz (show 1 ≤ wv.toNat by omega) x0 hsx
  have ly := lt_of_sz (show 1 ≤ wv.toNat by omega) y0 hsy
  k_steps
  show wpAny _ _ _ _ _ _
  refine callD (limbs_spec (B := 2 ^ wv.toNat) (by show dp + 1 < 900; omega) (X.keeps F.keep) (T.keeps F.keep) (by omega) hw5 rfl hB2 x0 (Int.lt_of_lt_of_le lx (pow_mono B1 (by decide)))) F N fun a1 n1 vs1 ns1 h' tk' F1 N1 i1 g1 len1 ne1 => ?_
  clear F N
  try dsimp only
  k_steps
  show wpAny _ _ _ _ _ _
  refine callD (limbs_spec (B := 2 ^ wv.toNat) (by show dp + 1 < 900; omega) (X.keeps F1.keep) (T.keeps F1.keep) (by omega) hw5 rfl hB2 y0 (Int.lt_of_lt_of_le ly (pow_mono B1 (by decide)))) F1 N1 fun a2 n2 vs2 ns2 h' tk' F2 N2 i2 g2 len2 ne2 => ?_
  clear F1 N1
  try dsimp only
  k_steps
  show wpAny _ _ _ _ _ _
  have N3 : News h₀ L _ ([(a2, listOf vs2.toArray n2), (a1, listOf vs1.toArray n1), (f1, fnMade na1 q1 ps1 fb1 sc1 [(Str.ofString "w", L + 1 + 1 + 1 + 1), (Str.ofString "squares", L + 1 + 1 + 1)] doc1 pm1 c1 ct1), (c1, oc1), (f2, fnMade na2 q2 ps2 fb2 sc2 [(Str.ofString "w", L + 1 + 1 + 1 + 1), (Str.ofString "asked", L + 1 + 1)] doc2 pm2 c2 ct2), (c2, oc2), (S, listOf #[] 0), (L + 1 + 1 + 1 + 1, o4), (L + 1 + 1 + 1, o3), (L + 1 + 1, o2), (165, tabObj pT)] ++ [(P, listOf #[] 0)]) := N2
  have hoP : ∀ p ∈ [(a2, listOf vs2.toArray n2), (a1, listOf vs1.toArray n1), (f1, fnMade na1 q1 ps1 fb1 sc1 [(Str.ofString "w", L + 1 + 1 + 1 + 1), (Str.ofString "squares", L + 1 + 1 + 1)] doc1 pm1 c1 ct1), (c1, oc1), (f2, fnMade na2 q2 ps2 fb2 sc2 [(Str.ofString "w", L + 1 + 1 + 1 + 1), (Str.ofString "asked", L + 1 + 1)] doc2 pm2 c2 ct2), (c2, oc2), (S, listOf #[] 0), (L + 1 + 1 + 1 + 1, o4), (L + 1 + 1 + 1, o3), (L + 1 + 1, o2), (165, tabObj pT)], p.1 ≠ P := List.forall_mem_cons.mpr ⟨(ne2 (P, listOf #[] 0) (by k_mem)).symm, List.forall_mem_cons.mpr ⟨(ne1 (P, listOf #[] 0) (by k_mem)).symm, List.forall_mem_cons.mpr ⟨hP f1 (by k_mem), List.forall_mem_cons.mpr ⟨hP c1 (by k_mem), List.forall_mem_cons.mpr ⟨hP f2 (by k_mem), List.forall_mem_cons.mpr ⟨hP c2 (by k_mem), List.forall_mem_cons.mpr ⟨hP S (by k_mem), List.forall_mem_cons.mpr ⟨hP (L + 1 + 1 + 1 + 1) (by k_mem), List.forall_mem_cons.mpr ⟨hP (L + 1 + 1 + 1) (by k_mem), List.forall_mem_cons.mpr ⟨hP (L + 1 + 1) (by k_mem), all1 (a := (165, tabObj pT)) (hP 165 (by k_mem))⟩⟩⟩⟩⟩⟩⟩⟩⟩⟩
  obtain ⟨sg, ig, ng, sh, offP, lgP⟩ := groundP F2 N3 hoP
  have lp := prods_len (show 1 ≤ wv.toNat by omega) least 20 x y x0 y0
  have lp7 : (prodsF wv.toNat least 20 x y).length ≤ 2187 := Nat.le_trans lp (Nat.le_trans (Nat.pow_le_pow_right (by decide) (show _ ≤ 7 by omega)) (by decide))
  have okM := two_ok (prog := prog) (g₁ := h₀) X T CH sg ho' hst5' (ig (f2, fnMade na2 q2 ps2 fb2 sc2 [(Str.ofString "w", L + 1 + 1 + 1 + 1), (Str.ofString "asked", L + 1 + 1)] doc2 pm2 c2 ct2) (by k_mem)) (codeRecP (codeRec_news N3 (by k_mem) dc2 vc2) (hP c2 (by k_mem))) (ig (L + 1 + 1 + 1 + 1, o4) (by k_mem)) (ig (L + 1 + 1, o2) (by k_mem)) (N3 (L + 1 + 1 + 1 + 1, o4) (by k_mem)).2.2 (N3 (L + 1 + 1, o2) (by k_mem)).2.2 (show @Ne Nat (L + 1 + 1 + 1 + 1) (L + 1 + 1) by omega) d4 d2 hw2 hw5 rfl
  refine wpAny_call (mul_all (least := least) (X.keeps sg) (T.keeps sg) ⟨_, _, _, _, ig (f2, fnMade na2 q2 ps2 fb2 sc2 [(Str.ofString "w", L + 1 + 1 + 1 + 1), (Str.ofString "asked", L + 1 + 1)] doc2 pm2 c2 ct2) (by k_mem)⟩ (by omega) hw5 rfl okM 20 _ _ _ _ _ [(P, listOf #[] 0)] [] _ _ x y _ _ (by show dp + 1 + 2 * 20 < 850; omega) sh ng lgP ⟨0, [], [], rfl, fun p hp => (nomatch hp), .nil⟩ (ldoNews N3 (by k_mem) (offP (a1, listOf vs1.toArray n1) (by k_mem)) i1 g1 len1) (ldoNews N3 (by k_mem) (offP (a2, listOf vs2.toArray n2) (by k_mem)) i2 g2 len2) (by omega) (by omega) (by omega) (by rw [List.length_nil]; omega) _ fun r h' tk' lg' k1 k2 k3 k4 hpost => ?_)
  obtain ⟨⟨nq, vq, tq, rfl, hneq, hpq⟩, hfo⟩ := hpost
  rw [List.nil_append] at hpq
  obtain ⟨a3, n3, vs3, ns3, rfl, F3, N4, i3, g3, len3, o3', ne3, _⟩ := joinM F2 N3 offP k1 k2 k3 hfo
  clear F2 N2 N3 sg ig ng sh lgP k1 k2 k3 hfo okM
  have hx35 : x < 2 ^ 35 := by
    refine Int.lt_of_lt_of_le lx ?_
    rw [← Int.pow_mul]
    exact pow_mono (by omega) (by omega)
  have hy35 : y < 2 ^ 35 := by
    refine Int.lt_of_lt_of_le ly ?_
    rw [← Int.pow_mul]
    exact pow_mono (by omega) (by omega)
  k_with "compareOp NotEq ref ref" => refine stop_of ?_
  k_with "binaryOp Mult int int" => refine mul_int ?_ (IntMulOk.of_left (intBits_le_64 (by omega) (by omega)))
  try dsimp only
  k_steps
  show wpAny _ _ _ _ _ _
  rename Fr _ _ _ _ => F'
  rename News _ _ _ _ => N'
  have hxy := mul_lt_pow B1 x0 y0 lx ly
  refine callD (limbs_spec (B := 2 ^ wv.toNat) (by show dp + 1 < 900; omega) (X.keeps F'.keep) (T.keeps F'.keep) (by omega) hw5 rfl hB2 hxy.1 (Int.lt_of_lt_of_le hxy.2 (pow_mono B1 (by decide)))) F' N' fun a4 n4 vs4 ns4 h' tk' F4 N5 i4 g4 len4 ne4 => ?_
  clear F' N'
  have e43 := g4.unique B1 g3
  subst e43
  try dsimp only
  k_steps
  show wpAny _ _ _ _ _ _
  rename Fr _ _ _ _ => F'
  rename News _ _ _ _ => N'
  refine callP (pr_all X T (by omega) hw5 rfl 20 _ _ _ _ _ x y _ _ _ _ (by show dp + 1 + 2 * 20 < 850; omega) (fun b o e => F'.keep _ _ e) x0 y0 (by omega) (by omega) (by omega)) F' N' fun a5 n5 vs5 tl5 h' tk' F5 N6 pa5 ne5 ap5 => ?_
  clear F' N'
  try dsimp only
  refine pairs_ne_same (l := prodsF wv.toNat least 20 x y) N6 (a := P) (va := vq) (na := nq) (b := a5) (vb := vs5) (nb := n5) (by k_mem) hpq (fun p hp => by kst_mem) (by k_mem) pa5 (fun p hp => .tail _ (List.mem_append_right _ hp)) (by show un + 3 + 64 < 9900; omega) ?_
  have N7 : News h₀ L _ ([(f1, fnMade na1 q1 ps1 fb1 sc1 [(Str.ofString "w", L + 1 + 1 + 1 + 1), (Str.ofString "squares", L + 1 + 1 + 1)] doc1 pm1 c1 ct1), (c1, oc1), (L + 1 + 1 + 1 + 1, o4), (L + 1 + 1 + 1, o3), (165, tabObj pT)] ++ [(S, listOf #[] 0)]) := newsSub N6 (List.forall_mem_cons.mpr ⟨by k_mem, List.forall_mem_cons.mpr ⟨by k_mem, List.forall_mem_cons.mpr ⟨by k_mem, List.forall_mem_cons.mpr ⟨by k_mem, List.forall_mem_cons.mpr ⟨by k_mem, all1 (by k_mem)⟩⟩⟩⟩⟩)
  clear N6 ne5 ap5 pa5 hpq hneq ne4 ne3 k4 hoP offP
  k_steps
  show wpAny _ _ _ _ _ _
  rename Fr _ _ _ _ => F'
  rename News _ _ _ _ => N'
  refine callD (limbs_spec (B := 2 ^ wv.toNat) (by show dp + 1 < 900; omega) (X.keeps F'.keep) (T.keeps F'.keep) (by omega) hw5 rfl hB2 x0 (Int.lt_of_lt_of_le lx (pow_mono B1 (by decide)))) F' N' fun a6 n6 vs6 ns6 h' tk' F6 N8 i6 g6 len6 ne6 => ?_
  clear F' N'
  try dsimp only
  k_steps
  show wpAny _ _ _ _ _ _
  have N9 : News h₀ L _ ([(a6, listOf vs6.toArray n6), (f1, fnMade na1 q1 ps1 fb1 sc1 [(Str.ofString "w", L + 1 + 1 + 1 + 1), (Str.ofString "squares", L + 1 + 1 + 1)] doc1 pm1 c1 ct1), (c1, oc1), (L + 1 + 1 + 1 + 1, o4), (L + 1 + 1 + 1, o3), (165, tabObj pT)] ++ [(S, listOf #[] 0)]) := N8
  have hoS : ∀ p ∈ [(a6, listOf vs6.toArray n6), (f1, fnMade na1 q1 ps1 fb1 sc1 [(Str.ofString "w", L + 1 + 1 + 1 + 1), (Str.ofString "squares", L + 1 + 1 + 1)] doc1 pm1 c1 ct1), (c1, oc1), (L + 1 + 1 + 1 + 1, o4), (L + 1 + 1 + 1, o3), (165, tabObj pT)], p.1 ≠ S := List.forall_mem_cons.mpr ⟨(ne6 (S, listOf #[] 0) (by k_mem)).symm, List.forall_mem_cons.mpr ⟨hS f1 (by k_mem), List.forall_mem_cons.mpr ⟨hS c1 (by k_mem), List.forall_mem_cons.mpr ⟨hS (L + 1 + 1 + 1 + 1) (by k_mem), List.forall_mem_cons.mpr ⟨hS (L + 1 + 1 + 1) (by k_mem), all1 (a := (165, tabObj pT)) (hS 165 (by k_mem))⟩⟩⟩⟩⟩
  obtain ⟨sg, ig, ng, sh, offS, lgS⟩ := groundP F6 N9 hoS
  have lq := sqrs_len (show 1 ≤ wv.toNat by omega) least 20 x x0
  have lq7 : (sqrsF wv.toNat least 20 x).length ≤ 2187 := Nat.le_trans lq (Nat.le_trans (Nat.pow_le_pow_right (by decide) (show _ ≤ 7 by omega)) (by decide))
  have okS := one_ok (prog := prog) (g₁ := h₀) X T CH sg ho' hst6' (ig (f1, fnMade na1 q1 ps1 fb1 sc1 [(Str.ofString "w", L + 1 + 1 + 1 + 1), (Str.ofString "squares", L + 1 + 1 + 1)] doc1 pm1 c1 ct1) (by k_mem)) (codeRecP (codeRec_news N9 (by k_mem) dc1 vc1) (hS c1 (by k_mem))) (ig (L + 1 + 1 + 1 + 1, o4) (by k_mem)) (ig (L + 1 + 1 + 1, o3) (by k_mem)) (N9 (L + 1 + 1 + 1 + 1, o4) (by k_mem)).2.2 (N9 (L + 1 + 1 + 1, o3) (by k_mem)).2.2 (show @Ne Nat (L + 1 + 1 + 1 + 1) (L + 1 + 1 + 1) by omega) d4 d3 hw2 hw5 rfl
  refine wpAny_call (sqr_all (least := least) (X.keeps sg) (T.keeps sg) ⟨_, _, _, _, ig (f1, fnMade na1 q1 ps1 fb1 sc1 [(Str.ofString "w", L + 1 + 1 + 1 + 1), (Str.ofString "squares", L + 1 + 1 + 1)] doc1 pm1 c1 ct1) (by k_mem)⟩ (by omega) hw5 rfl okS 20 _ _ _ _ _ [(S, listOf #[] 0)] [] _ x _ _ (by show dp + 1 + 2 * 20 < 850; omega) sh ng lgS ⟨0, [], rfl, .nil⟩ (ldoNews N9 (by k_mem) (offS (a6, listOf vs6.toArray n6) (by k_mem)) i6 g6 len6) (by omega) (by omega) (by rw [List.length_nil]; omega) _ fun r h' tk' lg' k1 k2 k3 k4 hpost => ?_)
  obtain ⟨⟨nz, vz, rfl, hpz⟩, hfo⟩ := hpost
  rw [List.nil_append] at hpz
  obtain ⟨a7, n7, vs7, ns7, rfl, F7, N10, i7, g7, len7, o7', ne7, _⟩ := joinM F6 N9 offS k1 k2 k3 hfo
  clear F6 N9 sg ig ng sh lgS k1 k2 k3 hfo okS
  have hxx := mul_lt_pow B1 x0 x0 lx lx
  try dsimp only
  k_steps
  show wpAny _ _ _ _ _ _
  rename Fr _ _ _ _ => F'
  rename News _ _ _ _ => N'
  refine callD (limbs_spec (B := 2 ^ wv.toNat) (by show dp + 1 < 900; omega) (X.keeps F'.keep) (T.keeps F'.keep) (by omega) hw5 rfl hB2 hxx.1 (Int.lt_of_lt_of_le hxx.2 (pow_mono B1 (by decide)))) F' N' fun a8 n8 vs8 ns8 h' tk' F8 N11 i8 g8 len8 ne8 => ?_
  clear F' N'
  have e87 := g8.unique B1 g7
  subst e87
  try dsimp only
  k_steps
  show wpAny _ _ _ _ _ _
  rename Fr _ _ _ _ => F'
  rename News _ _ _ _ => N'
  refine callL (sq_all X T (by omega) hw5 rfl 20 _ _ _ _ _ x _ _ _ (by show dp + 1 + 2 * 20 < 850; omega) (fun b o e => F'.keep _ _ e) x0 (by omega) (by omega)) F' N' fun a9 n9 vs9 h' tk' F9 N12 i9 ne9 => ?_
  clear F' N'
  try dsimp only
  refine eq_intsK (vs := vz) (us := vs9) ⟨_, (N12 (S, listOf vz.toArray nz) (by k_mem)).1, rfl, _, rfl⟩ hpz ⟨_, (N12 (a9, listOf vs9.toArray n9) (by k_mem)).1, rfl, _, rfl⟩ i9 (by show un + 3 + 64 < 9900; omega) ?_
  rw [decide_eq_true rfl]
  exact hQ _ _ _ _ F9 N12 (GrownAt.of N12 (ps := pT) (by k_mem))
end Mine
end
section
open PySem PySem.W PyProof.Rows PySem.Calls
namespace Mine

theorem restIn {α : Type} (a b c d e f g i : α) : ∀ p ∈ [a, d, e, f, i], p ∈ [a, b, c, d, e, f, g, i] := by
  intro p hp; simp only [List.mem_cons, List.not_mem_nil, or_false] at hp ⊢; rcases hp with rfl | rfl | rfl | rfl | rfl <;> simp
theorem execs_stop {M : Model} {A : Around} {E : Value → Shared → Prop} {Q : Flow → Shared → Prop} {s : Shared} {st : Stmt} {rest : List Stmt} {env : Env}
    (h1 : wpAny M A (exec st env) (fun f s' => f = .next ∧ Stop (wpAny M A (execs rest env) Q E s')) E s) : wpAny M A (execs (st :: rest) env) Q E s := by
  refine wpAny_execs_cons (wpAny_mono h1 (fun f s' x => ?_) fun _ _ x => x)
  obtain ⟨rfl, hi⟩ := x
  exact hi
theorem law_rest {prog : Program} {w : World} {dp un : Nat} {fr : Option (List Env)} {gd : Option (List Code)} {s : Shared} {p : Program} {loose : List Str} {mean : ExcName → Option Value} {mg mb : Str → Option Value}
   {Q : Flow → Shared → Prop} {name qual : Str} {params : Arguments} {body : List Stmt} {scope : Scope} {dV kV doc pm cdv ct oc : Value} {an od : Option Addr} {osl : Array (Option Value)} {f : Addr} {L nb tr l2 : Nat}
   {h₀ : Heap} {ys : List Value} {zs : List Int} {o1 o2 o3 o4 : Obj} {m₀ : Str → Option Value} {wv k x y : Int} {t t4 tx ty : Tok} {n nf wn : Nat}
   (hdp : dp < 500) (hun : un < 1000) (X : (hd.heap_39 w.params).In h₀) (T : Top p loose mean mg mb h₀) (CH : CodeHd h₀ 167 165) (l0 : 165 < L)
   (hI8 : IntsAre ys zs) (hz : zs.length ≤ 100)
   (ho : (hd.heap_39 w.params).lookup 168 = some ⟨oc, od, .func (fnOf name qual params body scope dV kV doc pm an cdv ct), osl⟩)
   (q0 : L + 1 + 1 + 1 + 1 < tr) (q2 : l2 < tr) (q3 : tr < nb)
   (F : Fr h₀ L s.heap m₀) (hm : m₀ (Str.ofString "numbers") = some (.ref nb))
   (N : News h₀ L s.heap (LoopNews L nb tr l2 [.int x tx, .int y ty] ys nf k t n o1 o2 o3 o4))
   (d1 : o1.data = .cell (some (.ref tr))) (d2 : o2.data = .cell none) (d3 : o3.data = .cell none) (d4 : o4.data = .cell (some (.int wv t4))) (hw2 : 2 ≤ wv) (hw5 : wv ≤ 5) (hwn : wn = wv.toNat)
   (hk0 : 0 ≤ k) (hk1 : k ≤ 20) (x0 : 0 ≤ x) (y0 : 0 ≤ y) (hsx : sz wn x ≤ 7) (hsy : sz wn y ≤ 7)
   (hQ : ∀ h' tk' m' news', Fr h₀ L h' m' → News h₀ L h' news' → GrownAt 165 h' → Q (.ret (.bool true)) { s with heap := h', toks := tk' }) :
   wpAny (model prog w) ((AR dp un fr gd).deeper (envOfC qual scope L f cdv)) (execs (body.drop 4) (envOfC qual scope L f cdv)) Q (fun _ _ => False) s := by
  have ho' := ho
  have e := (show (hd.heap_39 w.params).lookup 168 = some _ by k_is).symm.trans ho
  injection e with e
  injection e with e1 e2 e3 e4
  injection e3 with e3
  injection e3
  subst_vars
  rename_i body_eq globals_eq closure_eq builtins_eq
  injection body_eq with body_eq
  subst body_eq
  clear globals_eq closure_eq builtins_eq ho
  simp only [List.drop_succ_cons, List.drop_zero]
  replace F := frOf (ps := [(Str.ofString "numbers", Value.ref nb)]) F (fun p hp => by rw [List.mem_singleton.mp hp]; exact hm)
  dsimp only [kstB] at F
  unfold LoopNews at N
  show wpAny _ _ _ _ _ _
  k_with_none
  k_with "call ref" => refine stop_of ?_
  refine execs_stop ?_
  k_steps
  show wpAny _ _ _ _ _ _
  refine' wp_draw (k := k) (many := 6) (o2 := LCg.lst ys) (ys := ys) (zs := zs) (by omega) X T F N ?U ?m rfl ⟨_, rfl⟩ hI8 (by omega) (by omega) (by omega) (by omega) hz fun v tv h' tk' t' n' hv0 hv1 F N => ?_
  case U => k_updF
  case m => k_mem
  dsimp only at N ⊢
  have qq : L + 1 + 1 + 1 + 1 < nb := Nat.lt_trans q0 q3
  replace N := newsSub (l' := [(nb, listOf (List.toArray [.int x tx, .int y ty]) nf), (L + 1 + 1 + 1 + 1, o4), (L + 1 + 1 + 1, o3), (L + 1 + 1, o2), (165, tabObj #[])]) N (restIn _ _ _ _ _ _ _ _)
  clear q0 q2 q3 d1
  k_steps
  show wpAny _ _ _ _ _ _
  rotate_left
  · exact True.intro
  refine execs_stop ?_
  k_steps
  show wpAny _ _ _ _ _ _
  refine execs_stop ?_
  k_steps
  show wpAny _ _ _ _ _ _
  refine execs_stop ?_
  k_steps
  show wpAny _ _ _ _ _ _
  rename Fr _ _ _ _ => F'
  rename News _ _ _ _ => N'
  refine' law_mid (L := L) (least := v) (x := x) (y := y) (wv := wv) (wn := wv.toNat) hdp hun X T CH ho' (by rfl) (by rfl) F' ?zhm (newsSub N' (List.forall_mem_append.mpr ⟨List.forall_mem_cons.mpr ⟨?zf1, List.forall_mem_cons.mpr ⟨?zc1, List.forall_mem_cons.mpr ⟨?zf2, List.forall_mem_cons.mpr ⟨?zc2, List.forall_mem_cons.mpr ⟨?zs, List.forall_mem_cons.mpr ⟨?zo4, List.forall_mem_cons.mpr ⟨?zo3, List.forall_mem_cons.mpr ⟨?zo2, all1 ?ztb⟩⟩⟩⟩⟩⟩⟩⟩, all1 ?zp⟩)) ?zhP ?zhS ?zdc1 ?zvc1 ?zdc2 ?zvc2 ?zd2 ?zd3 d4 hw2 hw5 rfl x0 y0 hsx hsy hQ
  case zhm => kst_all
  case zf1 => k_mem
  case zc1 => k_mem
  case zf2 => k_mem
  case zc2 => k_mem
  case zo4 => k_mem
  case zo3 => k_mem
  case zo2 => k_mem
  case ztb => k_mem
  case zd2 => assumption
  case zd3 => assumption
  case zs => k_mem
  case zp => k_mem
  case zdc1 => assumption
  case zdc2 => assumption
  case zvc1 => assumption
  case zvc2 => assumption
  all_goals
    repeat' (refine List.forall_mem_cons.mpr ⟨by k_ne, ?_⟩)
    exact List.forall_mem_nil _
end Mine
end
section
open PySem PySem.W PyProof.Rows PySem.Calls
namespace Mine

theorem dropThird {g h : Heap} {L : Addr} {a b c : Addr × Obj} {l : Led} (N : News g L h (a :: b :: c :: l)) : News g L h (a :: b :: l) := fun p hp => N p (by
  rcases List.mem_cons.mp hp with rfl | hp
  · exact .head _
  · rcases List.mem_cons.mp hp with rfl | hp
    · exact .tail _ (.head _)
    · exact .tail _ (.tail _ (.tail _ hp)))
theorem law_core {prog : Program} {w : World} {dp un : Nat} {fr : Option (List Env)} {gd : Option (List Code)} {s : Shared} {p : Program} {loose : List Str} {mean : ExcName → Option Value} {mg mb : Str → Option Value}
   {Q : Flow → Shared → Prop} {name qual : Str} {params : Arguments} {body : List Stmt} {scope : Scope} {dV kV doc pm cdv ct oc : Value} {an od : Option Addr} {osl : Array (Option Value)} {f sc : Addr} {L : Nat}
   {h₀ : Heap} {ws : List Value} {zs : List Int} {o1 o2 o3 o4 : Obj}
   (hdp : dp < 500) (hun : un < 1000) (X : (hd.heap_39 w.params).In h₀) (T : Top p loose mean mg mb h₀) (CH : CodeHd h₀ 167 165) (l0 : 165 < L)
   (hI : IntsAre ws zs) (hl : h₀.IsList sc ws.toArray) (hz : ¬ (63 : Int) < (zs.length : Int))
   (ho : (hd.heap_39 w.params).lookup 168 = some ⟨oc, od, .func (fnOf name qual params body scope dV kV doc pm an cdv ct), osl⟩)
   (F : Fr h₀ L s.heap (bindL (envOfC qual scope L f cdv).kindOf [(Str.ofString "script", .ref sc)] fun _ => none))
   (N : News h₀ L s.heap [(L + 1 + 1 + 1 + 1, o4), (L + 1 + 1 + 1, o3), (L + 1 + 1, o2), (L + 1, o1), (165, tabObj #[])])
   (d1 : o1.data = .cell none) (d2 : o2.data = .cell none) (d3 : o3.data = .cell none) (d4 : o4.data = .cell none)
   (hQ : ∀ h' tk' m' news', Fr h₀ L h' m' → News h₀ L h' news' → GrownAt 165 h' → Q (.ret (.bool true)) { s with heap := h', toks := tk' }) :
   wpAny (model prog w) ((AR dp un fr gd).deeper (envOfC qual scope L f cdv)) (execs body (envOfC qual scope L f cdv)) Q (fun _ _ => False) s := by
  have ho' := ho
  have e := (show (hd.heap_39 w.params).lookup 168 = some _ by k_is).symm.trans ho
  injection e with e
  injection e with e1 e2 e3 e4
  injection e3 with e3
  injection e3
  subst_vars
  rename_i body_eq globals_eq closure_eq builtins_eq
  injection body_eq with body_eq
  subst body_eq
  clear globals_eq closure_eq builtins_eq ho
  have hz2 : zs.length ≤ 63 := by omega
  show wpAny _ _ _ _ _ _
  try k_fold
  k_with_none
  k_with "call ref" => refine stop_of ?_
  refine execs_stop ?_
  k_steps
  all_goals (try (with_reducible exact True.intro))
  show wpAny _ _ _ _ _ _
  refine execs_stop ?_
  k_steps
  show wpAny _ _ _ _ _ _
  rename Fr _ _ _ _ => F'
  rename News _ _ _ _ => N'
  rename IntsAre _ (List.map _ _) => hI8
  rename List Value => ys
  have hys : (List.map (fun k' : Int => if k' < 0 then -k' else k') (List.take 24 zs)).length ≤ 100 := by simp; omega
  generalize List.map (fun k' : Int => if k' < 0 then -k' else k') (List.take 24 zs) = zs8 at *
  replace N' := dropThird N'
  rename _ ∧ _ ∧ _ ∧ _ ∧ _ ∧ _ ∧ _ => l9
  have q2 := l9.1
  have q0 := l9.2.2.1
  clear l9
  rename _ ∧ _ ∧ _ ∧ _ ∧ _ ∧ _ => o9
  replace o9 := o9.2
  rename _ < _ ∧ _ ∧ _ ∧ _ ∧ _ => l9
  clear l9
  refine' wp_draw (k := 0) (many := 4) (o2 := LCg.lst ys) (ys := ys) (zs := zs8) (by omega) X T F' N' ?U ?m rfl ⟨_, rfl⟩ hI8 (by omega) (by omega) (by omega) (by omega) hys fun v tv h' tk' t' n' hv0 hv1 F N => ?_
  case U => k_updF
  case m => k_mem
  clear F' N'
  dsimp only at N ⊢
  k_steps
  all_goals (try (with_reducible exact True.intro))
  show wpAny _ _ _ _ _ _
  refine execs_stop ?_
  k_steps
  all_goals (try (with_reducible exact True.intro))
  show wpAny _ _ _ _ _ _
  rename Fr _ _ _ _ => F'
  rename News _ _ _ _ => N'
  rename _ ∧ _ ∧ _ ∧ _ ∧ _ ∧ _ ∧ _ => l9
  replace l9 := l9.1
  refine' execs_cut (fun s' => ∃ h' tk' m' nx, s' = { s with heap := h', toks := tk' } ∧ Fr h₀ L h' m' ∧ News h₀ L h' nx ∧ LoopInv h₀ L _ _ _ ys _ _ _ _ _ 2 m' nx) (law_for (n := n') (t := t') (wv := 2 + v) hdp X T l0 hI8 hys ho' (by rfl) q0 q2 ?q3 F' ?hm N' ?d1 ?d4 (by omega) (by omega) rfl) ?_
  case d1 => assumption
  case d4 => assumption
  case hm => exact if_pos rfl
  case q3 => assumption
  rintro s' ⟨h9, tk9, m9, nx, rfl, F9, N9, vf, nf, nsf, k9, t9, n9, rfl, hm9, hk0, hk1, hvi, hlen, hall⟩
  clear F' N'
  cases hvi with
  | nil => simp at hlen
  | cons x tx h1 =>
    cases h1 with
    | nil => simp at hlen
    | cons y ty h2 =>
      cases h2 with
      | cons z tz h3 => simp at hlen
      | nil =>
        have hx := hall x (by simp)
        have hy := hall y (by simp)
        refine' law_rest (x := x) (y := y) (wv := 2 + v) hdp hun X T CH l0 hI8 hys ho' q0 q2 ?q3 F9 hm9 N9 ?d1 d2 d3 ?d4 (by omega) (by omega) rfl hk0 (by omega) hx.1 hy.1 hx.2 hy.2 hQ
        case d1 => assumption
        case d4 => assumption
        case q3 => assumption
end Mine
end
theorem PySem.Challenge.cw_pq0534_01_holds : PySem.Challenge.rw_pq0534_01.Holds := by
  refine Mine.hd ?_
  k_with_none
  k_go0
  rename Frag.In _ _ => X9
  rename CodeHd _ _ _ => C9
  rename Fr _ _ _ _ => F9
  rename News _ _ _ _ => N9
  rename IntsAre _ _ => I9
  refine' wpAny_mono (Mine.law_core (dp := 1 + claimMargin) (un := 4) (fr := some []) (gd := some []) (by decide) (by decide) X9 (by assumption) C9 (by assumption) I9 (by assumption) ?hz (by k_is) F9 N9 ?d1 ?d2 ?d3 ?d4 ?hQ) (fun _ _ x => x) fun _ _ x => x.elim
  case hz => omega
  case d1 => assumption
  case d2 => assumption
  case d3 => assumption
  case d4 => assumption
  case hQ =>
    intro h' tk' m' news' F N G
    refine ⟨?_, G, True.intro⟩
    k_steps
