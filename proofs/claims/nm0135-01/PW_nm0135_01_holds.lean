import PyProof.Rows.All
import Wide.All
import OpenK.AllK
import Wide.FinOn
import Lean
import PySem.Challenge.RW_nm0135_01
set_option Elab.async false
set_option maxRecDepth 100000
set_option maxHeartbeats 8000000
set_option linter.unusedVariables false
set_option linter.unusedSimpArgs false
set_option compiler.extract_closed false
section
open PySem PySem.W PyProof.Rows PySem.Calls PySem.SeqAt
namespace Mine
theorem sz {n k : Nat} (h : n ≤ k) (hk : Nat.ble k 16777216 = true) : n ≤ sizeLine := Nat.le_trans h (Nat.le_of_ble_eq_true hk)
theorem dp1 {d k l : Nat} (h : d + (k + 1) < l) : d + 1 + k < l := Nat.lt_of_le_of_lt (Nat.le_of_eq (Nat.succ_add d k)) h
theorem un1 {u k a c : Nat} (h : u + 8 * (k + 1) + 8 < c) (ha : a ≤ 8) : u + a + 8 * k + 8 < c := by
  rw [Nat.mul_succ, ← Nat.add_assoc] at h
  exact Nat.lt_of_le_of_lt (Nat.add_le_add_right (Nat.le_trans (Nat.le_of_eq (Nat.add_right_comm u a (8 * k))) (Nat.add_le_add_left ha _)) 8) h
theorem sub_lt1 {n k i : Nat} (hk : k = n - i) (h : i < n) : n - (i + 1) < k := hk ▸ Nat.sub_lt_sub_left h (Nat.lt_succ_self i)
theorem tl_le {l : List Int} {k : Nat} (h : l.length ≤ k) : l.tail.length ≤ k := Nat.le_trans (Nat.le_of_eq List.length_tail) (Nat.le_trans (Nat.sub_le _ _) h)
theorem mn3 (a n y b : Nat) : min a n + (y + (n - b)) ≤ n + y + n := by rw [Nat.add_assoc]; exact Nat.add_le_add (Nat.min_le_right a n) (Nat.add_le_add_left (Nat.sub_le n b) y)
theorem mx_mono {a b c d : Nat} (h : a ≤ c) (k : b ≤ d) : max a b ≤ max c d := Nat.max_le.2 ⟨Nat.le_trans h (Nat.le_max_left c d), Nat.le_trans k (Nat.le_max_right c d)⟩
theorem mx4 (p a b r : Nat) : max p (max 0 r) ≤ max p (max a (max b r)) := mx_mono (Nat.le_refl p) (mx_mono (Nat.zero_le a) (Nat.le_max_right b r))
theorem mx_l {a b d k : Nat} (h : max a b + 1 ≤ d) (hk : d ≤ k) : a < k := Nat.lt_of_lt_of_le (Nat.lt_of_le_of_lt (Nat.le_max_left a b) h) hk
theorem mx_r {a b d k : Nat} (h : max a b + 1 ≤ d) (hk : d ≤ k) : b < k := Nat.lt_of_lt_of_le (Nat.lt_of_le_of_lt (Nat.le_max_right a b) h) hk
theorem tnp {h : Int} (h0 : 0 ≤ h) : (h + 1).toNat = h.toNat + 1 := Int.toNat_add h0 (by decide)
theorem tn1 {h : Int} (h1 : 1 ≤ h) : h.toNat = (h + -1).toNat + 1 := (congrArg Int.toNat (Int.neg_add_cancel_right h 1)).symm.trans (tnp (Int.sub_nonneg_of_le h1))
theorem tns {h : Int} (h1 : 1 ≤ h) : h.toNat = h.toNat - 1 + 1 := (Nat.sub_add_cancel (Int.toNat_le_toNat h1)).symm
theorem tn2 {h : Int} (h2 : 2 ≤ h) : (h + -1).toNat = h.toNat - 2 + 1 := by
  rw [tn1 (Int.le_trans (by decide) h2)]
  exact tns (Int.le_sub_right_of_add_le h2)
theorem tn3 {h : Int} (h1 : 2 ≤ h) : h.toNat = h.toNat - 2 + 2 := (tn1 (Int.le_trans (by decide) h1)).trans (congrArg Nat.succ (tn2 h1))
theorem tn_lt {i m : Int} {n : Nat} (h : (n : Int) = m) (h0 : 0 ≤ i) (h1 : i < m) : i.toNat < n := (Int.toNat_lt h0).2 (Int.lt_of_lt_of_le h1 (Int.le_of_eq h.symm))
theorem tn_ne {i j : Int} {P : Prop} (h0 : 0 ≤ i) (h1 : 0 ≤ j) (hn : i ≠ j) : ¬ (i.toNat = j.toNat ∧ P) := fun q => hn ((Int.toNat_of_nonneg h0).symm.trans ((congrArg Nat.cast q.1).trans (Int.toNat_of_nonneg h1)))
theorem no2 {c d x y : Int} (h : ¬ (32 ≤ c ∧ c ≤ 34 ∧ 32 ≤ d ∧ d ≤ 34)) (hx : 32 ≤ x ∧ x ≤ 34 ∧ 32 ≤ y ∧ y ≤ 34) : ¬ (c = x ∧ d = y) := fun q => h (by rw [q.1, q.2]; exact hx)
theorem seq_at {n : Nat} {k : Int} (h0 : 0 ≤ k) (h1 : k.toNat < n) : seqIndex? k n = some k.toNat := by
  unfold seqIndex?; simp only [if_neg (Int.not_lt.2 h0)]; exact if_pos (Bool.and_eq_true_iff.mpr ⟨decide_eq_true h0, decide_eq_true ((Int.toNat_lt h0).1 h1)⟩)
theorem psub (p n : Nat) : (((p + n : Nat) : Int) - p).toNat = n := (Int.toNat_sub _ _).trans (Nat.add_sub_cancel_left ..)
theorem mx_2 (n : Nat) : (max (n : Int) ((n : Int) + 2)).toNat = n + 2 := congrArg Int.toNat (Int.max_eq_right (Int.le_add_of_nonneg_right (by decide)))
theorem mx_0 (n : Nat) : (max (0 : Int) (n : Int)).toNat = n := congrArg Int.toNat (Int.max_eq_right (Int.natCast_nonneg n))
theorem k1 {a m K : Nat} (hK : 2 ≤ K) (h : a ≤ m) : a + 1 ≤ m + (K - 1) := Nat.add_le_add h (Nat.le_sub_of_add_le hK)
theorem k2 {a b c m K K' : Nat} (hK : 5 + 8 * K' ≤ K) (h : a ≤ m) (hb : b ≤ 4 * K') (hc : c ≤ 4 * K') : a + (b + (c + 1 + 1) + 1 + 1) ≤ m + (K - 1) :=
  Nat.add_le_add h (Nat.le_sub_of_add_le (Nat.le_trans (Nat.add_le_add_right (Nat.add_le_add hb hc) 5) (Nat.le_trans (Nat.le_of_eq ((Nat.add_comm _ _).trans (congrArg (5 + ·) (Nat.add_mul 4 4 K').symm))) hK)))
theorem k3 {a b m K K' : Nat} (hK : 5 + 8 * K' ≤ K) (h : a ≤ m) (hb : b ≤ 4 * K') : a + (b + 1 + 1 + 1) ≤ m + (K - 1) := Nat.le_trans (Nat.add_le_add_left (Nat.le_succ (b + 3)) a) (k2 (c := 0) hK h hb (Nat.zero_le _))
theorem k4 {a b m K K' : Nat} (hK : 5 + 8 * K' ≤ K) (h : a ≤ m) (hb : b ≤ 4 * K') : a + (b + 1 + 1) ≤ m + (K - 1) := Nat.le_trans (Nat.add_le_add_left (Nat.le_succ (b + 2)) a) (k3 hK h hb)
theorem f4 {i : Int} (h : i < 5) : i.toNat ≤ 4 := Int.toNat_le.2 (Int.le_of_lt_add_one h)
theorem tn12 {n : Int} (h : n ≤ 12) : n.toNat ≤ 12 := Int.toNat_le.2 h
theorem fa1 {T b e m : Nat} (h : T + (b + e + 1) ≤ m) : b ≤ m := Nat.le_trans (Nat.le_trans (Nat.le_add_right b e) (Nat.le_trans (Nat.le_succ _) (Nat.le_add_left _ T))) h
theorem fa3 {y z T b e L : Nat} (hy : y = T) (hz : z = b) (h : T + (b + e + 1) ≤ L) (hl : L ≤ 5000) : y + (z + 1) ≤ 100000 := by
  subst hy hz; exact Nat.le_trans (Nat.add_le_add_left (Nat.succ_le_succ (Nat.le_add_right _ e)) _) (Nat.le_trans h (Nat.le_trans hl (by decide)))
theorem fa2 {y z T b e L : Nat} (hy : y = T) (hz : z = b) (h : T + (b + e + 1) ≤ L) (hl : L ≤ 5000) : y + 1 + z ≤ 100000 := Nat.le_trans (Nat.le_of_eq (Nat.succ_add y z)) (fa3 hy hz h hl)
theorem fbL {T a b e L : Nat} (h : T + (a + (b + e + 1) + 1) ≤ L) : b + e + 1 ≤ L := Nat.le_trans (Nat.le_trans (Nat.le_add_left _ a) (Nat.le_trans (Nat.le_succ _) (Nat.le_add_left _ T))) h
theorem fb1 {T a b e L : Nat} (h : T + (a + (b + e + 1) + 1) ≤ L) : b ≤ L := Nat.le_trans (Nat.le_add_right b (e + 1)) (fbL h)
theorem fb4 {z T a b e L : Nat} (hz : z = b) (h : T + (a + (b + e + 1) + 1) ≤ L) (hl : L ≤ 5000) : 1 + z ≤ 100000 := by
  subst hz; exact Nat.le_trans (Nat.le_of_eq (Nat.add_comm 1 _)) (Nat.le_trans (Nat.succ_le_succ (Nat.le_add_right _ e)) (Nat.le_trans (fbL h) (Nat.le_trans hl (by decide))))
theorem fb5 {y x z T a b e L : Nat} (hy : y = T) (hx : x = a) (hz : z = b) (h : T + (a + (b + e + 1) + 1) ≤ L) (hl : L ≤ 5000) : y + (x + (z + 1) + 1) ≤ 100000 := by
  subst hy hx hz; exact Nat.le_trans (Nat.add_le_add_left (Nat.succ_le_succ (Nat.add_le_add_left (Nat.succ_le_succ (Nat.le_add_right _ e)) _)) _) (Nat.le_trans h (Nat.le_trans hl (by decide)))
theorem fb6 {y x z T a b e L : Nat} (hy : y = T) (hx : x = a) (hz : z = b) (h : T + (a + (b + e + 1) + 1) ≤ L) (hl : L ≤ 5000) : y + (x + 1) + (z + 1) ≤ 100000 :=
  Nat.le_trans (Nat.le_of_eq ((Nat.add_assoc y (x + 1) (z + 1)).trans (congrArg (y + ·) (Nat.succ_add x (z + 1))))) (fb5 hy hx hz h hl)
theorem pa0 {Z w T b L : Nat} (hl : Z + L ≤ 6000) (hw : w = T) (h : T + b ≤ L) : Z + w ≤ 6000 := by
  subst hw; exact Nat.le_trans (Nat.add_le_add_left (Nat.le_trans (Nat.le_add_right _ _) h) Z) hl
theorem pa5 {Z w v T b e L : Nat} (hl : Z + L ≤ 6000) (hw : w = T) (hv : v = b) (h : T + (b + e + 1) ≤ L) : Z + (w + (v + 1)) ≤ 6000 := by
  subst hw hv; exact Nat.le_trans (Nat.add_le_add_left (Nat.le_trans (Nat.add_le_add_left (Nat.succ_le_succ (Nat.le_add_right _ e)) _) h) Z) hl
theorem pa4 {Z w T b e L : Nat} (hl : Z + L ≤ 6000) (hw : w = T) (h : T + (b + e + 1) ≤ L) : Z + (w + 1) + b ≤ 6000 :=
  Nat.le_trans (Nat.le_of_eq ((Nat.add_assoc Z (w + 1) b).trans (congrArg (Z + ·) (Nat.succ_add w b)))) (pa5 hl hw rfl h)
theorem pb5 {Z w v u T a b e L : Nat} (hl : Z + L ≤ 6000) (hw : w = T) (hv : v = a) (hu : u = b) (h : T + (a + (b + e + 1) + 1) ≤ L) : Z + (w + (v + (u + 1) + 1)) ≤ 6000 := by
  subst hw hv hu; exact Nat.le_trans (Nat.add_le_add_left (Nat.le_trans (Nat.add_le_add_left (Nat.succ_le_succ (Nat.add_le_add_left (Nat.succ_le_succ (Nat.le_add_right _ e)) _)) _) h) Z) hl
theorem pb4 {Z w v T a b e L : Nat} (hl : Z + L ≤ 6000) (hw : w = T) (hv : v = a) (h : T + (a + (b + e + 1) + 1) ≤ L) : Z + (w + (v + 1 + 1)) + b ≤ 6000 :=
  Nat.le_trans (Nat.le_of_eq ((Nat.add_assoc Z _ b).trans (congrArg (Z + ·) ((Nat.add_assoc w _ b).trans (congrArg (w + ·) ((Nat.succ_add (v + 1) b).trans (congrArg Nat.succ (Nat.succ_add v b)))))))) (by exact pb5 (u := b) hl hw hv rfl h)
theorem jw1 (n a : Nat) : n * 6000 + ((a : Int) - 1 + 2).toNat < n * 6000 + ((a : Int) + 2).toNat := by
  have e : (a : Int) - 1 + 2 = ((a + 1 : Nat) : Int) := by rw [show (2 : Int) = 1 + 1 from rfl, ← Int.add_assoc, Int.sub_add_cancel]; rfl
  rw [e]; exact Nat.add_lt_add_left (Nat.lt_succ_self (a + 1)) _
theorem jw3 {a y z b n : Nat} (hn : n ≤ 5000) (hy : y = n) (hz : z ≤ 1) : min a y + z + (y - b) ≤ 11000 := Nat.add_le_add (Nat.add_le_add (Nat.le_trans (Nat.min_le_right a y) (hy ▸ hn)) hz) (Nat.le_trans (Nat.sub_le y b) (Nat.le_trans (hy ▸ hn) (by decide : 5000 ≤ 5999)))
theorem jw2 {a y z n : Nat} (hn : n ≤ 5000) (hy : y = n) (hz : z ≤ 1) : min a y + z ≤ 11000 := Nat.le_trans (Nat.le_add_right _ (y - 0)) (jw3 hn hy hz)
theorem jw4 {a y z b n : Nat} (hn : n ≤ 5000) (hy : y = n) (hz : z ≤ 1) : min a y + (z + (y - b)) ≤ 11000 := Nat.le_trans (Nat.le_of_eq (Nat.add_assoc _ _ _).symm) (jw3 hn hy hz)
theorem jw5 {m n a : Nat} (h : m < n) (hn : n ≤ 5000) : m * 6000 + ((m : Int) - 2 + 2).toNat < n * 6000 + ((a : Int) + 2).toNat := by
  rw [Int.sub_add_cancel]
  exact Nat.lt_of_lt_of_le (Nat.add_lt_add_left (Nat.lt_of_lt_of_le h (Nat.le_trans hn (by decide : 5000 ≤ 6000))) _) (Nat.le_trans (Nat.le_of_eq (Nat.succ_mul m 6000).symm) (Nat.le_trans (Nat.mul_le_mul_right 6000 h) (Nat.le_add_right _ _)))
theorem jw6 {n i : Nat} (h : (n : Int) - 2 < i) : n ≤ i + 1 := Nat.le_of_lt_succ (Int.ofNat_lt.1 (Int.lt_add_of_sub_right_lt h))
theorem jw7 {a n : Nat} (h : (a : Int) + 2 ≤ n) (hn : n ≤ 5000) : (a : Int) + 1 < 2 ^ 63 := by omega
theorem jw8 {a n y : Nat} (h : (a : Int) + 2 ≤ n) (hy : y = n) : a + 1 < y := hy ▸ Int.ofNat_le.1 h
theorem rcA {M a n : Nat} (h : M + a = n) (ha : a < n) : M - 1 < M ∧ M - 1 + (a + 1) = n :=
  have hp : 0 < M := Nat.lt_of_add_lt_add_right (by rw [Nat.zero_add, h]; exact ha)
  ⟨Nat.sub_lt hp Nat.one_pos, (Nat.succ_add (M - 1) a).symm.trans ((congrArg (· + a) (Nat.sub_add_cancel hp)).trans h)⟩
theorem rcB {M a n r L : Nat} (h : M + a = L) (ha : a < L) (hb : 1 ≤ n ∧ n ≤ r) (hr : r = L - (a + 1)) : M - 1 - n < M ∧ M - 1 - n + (a + 1 + n) = L := by
  have f := rcA h ha
  have hn : n ≤ M - 1 := by rw [hr, ← f.2, Nat.add_sub_cancel] at hb; exact hb.2
  exact ⟨Nat.lt_of_le_of_lt (Nat.sub_le _ n) f.1, by rw [Nat.add_comm (a + 1) n, ← Nat.add_assoc, Nat.sub_add_cancel hn]; exact f.2⟩
theorem p63 {i : Int} (h : i < 2 ^ 62) : i < 2 ^ 63 := Int.lt_trans h (by decide)
theorem q63 {a n : Nat} (h : a < n) (hn : n ≤ 6000) : (a : Int) < 2 ^ 63 := Int.lt_of_lt_of_le (Int.ofNat_lt.2 (Nat.lt_of_lt_of_le h hn)) (by decide)
theorem neg1L {l : List Value} {x : Value} : ((-1 : Int) + ((l ++ [x]).length : Nat)).toNat = l.length := by rw [List.length_append]; exact congrArg Int.toNat ((Int.add_comm _ _).trans (Int.add_neg_cancel_right (l.length : Int) 1))
theorem no3 {c k : Int} (hc : c = 2 ∨ c = 3 ∨ c = 11) (h : ¬ (k = 2 ∨ k = 3 ∨ k = 11)) : ¬ c = k := fun e => h (e ▸ hc)
theorem no1 {c k : Int} (h : ¬ (32 ≤ c ∧ c ≤ 34)) (hk : 32 ≤ k ∧ k ≤ 34) : ¬ c = k := fun e => h (e ▸ hk)
theorem pk2 {p : Nat} {kind : Int} (h : kind ≤ 1) (hp : (p : Int) = 1 + kind) : p ≤ 2 := Int.ofNat_le.1 (Int.le_trans (Int.le_of_eq hp) (Int.add_le_add_left h 1))
theorem sb1 {p q : Nat} : (0 : Int) ≤ ((p + q : Nat) : Int) - p := Int.sub_nonneg_of_le (Int.ofNat_le.2 (Nat.le_add_right p q))
theorem sb2 {p q n : Nat} (h : p + q < n) (hn : n ≤ 5) : ((p + q : Nat) : Int) - p < 2 ^ 63 := Int.lt_of_le_of_lt (Int.sub_le_self _ (Int.natCast_nonneg p)) (Int.lt_of_le_of_lt (Int.ofNat_le.2 (Nat.le_trans (Nat.le_of_lt h) hn)) (by decide))
theorem lt_ne {k n : Int} (h : k < n + 1) (hn : ¬ k = n) : k < n := Int.lt_iff_le_and_ne.2 ⟨Int.le_of_lt_add_one h, hn⟩
theorem psub1 (p q : Nat) : p + q + 1 - p = q + 1 := (congrArg (· - p) (Nat.add_assoc p q 1)).trans (Nat.add_sub_cancel_left p (q + 1))
theorem n12 {x : Int} (h : x < 11) : 2 + x ≤ 12 := Int.add_le_add_left (Int.le_of_lt_add_one h : x ≤ 10) 2
theorem f3 {i : Int} (h : i < 4) : i.toNat ≤ 3 := Int.toNat_le.2 (Int.le_of_lt_add_one h)
theorem k12 {kind : Int} (h : kind < 2) : 1 + kind ≤ 2 := Int.add_le_add_left (Int.le_of_lt_add_one h : kind ≤ 1) 1
theorem pos1 {p : Nat} {kind : Int} (h0 : 0 ≤ kind) (hp : (p : Int) = 1 + kind) (n : Nat) : (0 : Int) < ((p + n : Nat) : Int) :=
  Int.lt_of_lt_of_le (by rw [hp]; exact Int.add_pos_of_pos_of_nonneg (by decide) h0) (Int.ofNat_le.2 (Nat.le_add_right p n))
theorem hi_of {p : Nat} {i : Int} (h : ¬ i < p) : ∃ q : Nat, i = ((p + q : Nat) : Int) := ⟨(i - p).toNat, by rw [Int.natCast_add, Int.toNat_of_nonneg (Int.sub_nonneg_of_le (Int.not_lt.1 h)), Int.add_comm, Int.sub_add_cancel]⟩
theorem pqn {p q n : Nat} (h : ((p + q : Nat) : Int) < ((p + n : Nat) : Int)) : p + q + (n - q) = p + n := by rw [Nat.add_assoc, Nat.add_sub_of_le (Nat.le_of_lt (Nat.lt_of_add_lt_add_left (Int.ofNat_lt.1 h)))]
theorem kp1 {p n : Nat} {k : Int} (h : k < ((p + n : Nat) : Int)) (m : (p : Int) ≤ k) : (k - p).toNat < n := (Int.toNat_lt (Int.sub_nonneg_of_le m)).2 (Int.sub_left_lt_of_lt_add h)
theorem kp2 {p n : Nat} {k : Int} (h : k < ((p + n : Nat) : Int)) (hn : p + n ≤ 6) : k - p < 2 ^ 63 := Int.lt_of_le_of_lt (Int.sub_le_self k (Int.natCast_nonneg p)) (Int.lt_trans h (Int.lt_of_le_of_lt (Int.ofNat_le.2 hn) (by decide)))
theorem neg2a {l : List Value} {x y : Value} : ((-1 : Int) + ((l ++ [x, y]).length : Nat)).toNat = l.length + 1 := by rw [List.length_append]; exact congrArg Int.toNat ((Int.add_comm _ _).trans (Int.add_neg_cancel_right ((l.length + 1 : Nat) : Int) 1))
theorem neg2b {l : List Value} {x y : Value} : ((-2 : Int) + ((l ++ [x, y]).length : Nat)).toNat = l.length := by rw [List.length_append]; exact congrArg Int.toNat ((Int.add_comm _ _).trans (Int.add_neg_cancel_right (l.length : Int) 2))
noncomputable def n_BLOCK : Str := Str.ofString "BLOCK"
noncomputable def n_DROP : Str := Str.ofString "DROP"
noncomputable def n_ELSE : Str := Str.ofString "ELSE"
noncomputable def n_END : Str := Str.ofString "END"
noncomputable def n_FUNCTION : Str := Str.ofString "FUNCTION"
noncomputable def n_Func : Str := Str.ofString "Func"
noncomputable def n_IF : Str := Str.ofString "IF"
noncomputable def n_LOCAL_GET : Str := Str.ofString "LOCAL_GET"
noncomputable def n_LOCAL_SET : Str := Str.ofString "LOCAL_SET"
noncomputable def n_LOCAL_TEE : Str := Str.ofString "LOCAL_TEE"
noncomputable def n_LOOP : Str := Str.ofString "LOOP"
noncomputable def n_Module : Str := Str.ofString "Module"
noncomputable def n_Piece : Str := Str.ofString "Piece"
noncomputable def n__name__ : Str := Str.ofString "__name__"
noncomputable def n_law_behind : Str := Str.ofString "_law_behind"
noncomputable def n_law_flat : Str := Str.ofString "_law_flat"
noncomputable def n_law_is_kept_right : Str := Str.ofString "_law_is_kept_right"
noncomputable def n_law_items : Str := Str.ofString "_law_items"
noncomputable def n_law_join : Str := Str.ofString "_law_join"
noncomputable def n_law_joined : Str := Str.ofString "_law_joined"
noncomputable def n_law_kept : Str := Str.ofString "_law_kept"
noncomputable def n_law_next : Str := Str.ofString "_law_next"
noncomputable def n_law_pick : Str := Str.ofString "_law_pick"
noncomputable def n_law_run : Str := Str.ofString "_law_run"
noncomputable def n_law_two : Str := Str.ofString "_law_two"
noncomputable def n_wall : Str := Str.ofString "_wall"
noncomputable def n_ahead : Str := Str.ofString "ahead"
noncomputable def n_at : Str := Str.ofString "at"
noncomputable def n_body : Str := Str.ofString "body"
noncomputable def n_body_of : Str := Str.ofString "body_of"
noncomputable def n_codes : Str := Str.ofString "codes"
noncomputable def n_deep : Str := Str.ofString "deep"
noncomputable def n_due : Str := Str.ofString "due"
noncomputable def n_first : Str := Str.ofString "first"
noncomputable def n_found : Str := Str.ofString "found"
noncomputable def n_func : Str := Str.ofString "func"
noncomputable def n_given : Str := Str.ofString "given"
noncomputable def n_height : Str := Str.ofString "height"
noncomputable def n_here : Str := Str.ofString "here"
noncomputable def n_index : Str := Str.ofString "index"
noncomputable def n_inner : Str := Str.ofString "inner"
noncomputable def n_int : Str := Str.ofString "int"
noncomputable def n_is_else : Str := Str.ofString "is_else"
noncomputable def n_items : Str := Str.ofString "items"
noncomputable def n_join_last : Str := Str.ofString "join_last"
noncomputable def n_join_locals : Str := Str.ofString "join_locals"
noncomputable def n_k : Str := Str.ofString "k"
noncomputable def n_kept : Str := Str.ofString "kept"
noncomputable def n_kind : Str := Str.ofString "kind"
noncomputable def n_len : Str := Str.ofString "len"
noncomputable def n_list : Str := Str.ofString "list"
noncomputable def n_local : Str := Str.ofString "local"
noncomputable def n_locals_now : Str := Str.ofString "locals_now"
noncomputable def n_many : Str := Str.ofString "many"
noncomputable def n_module : Str := Str.ofString "module"
noncomputable def n_name : Str := Str.ofString "name"
noncomputable def n_number : Str := Str.ofString "number"
noncomputable def n_one : Str := Str.ofString "one"
noncomputable def n_opened : Str := Str.ofString "opened"
noncomputable def n_other : Str := Str.ofString "other"
noncomputable def n_out : Str := Str.ofString "out"
noncomputable def n_own : Str := Str.ofString "own"
noncomputable def n_params : Str := Str.ofString "params"
noncomputable def n_part : Str := Str.ofString "part"
noncomputable def n_parts_of : Str := Str.ofString "parts_of"
noncomputable def n_piece : Str := Str.ofString "piece"
noncomputable def n_pieces : Str := Str.ofString "pieces"
noncomputable def n_pieces_of : Str := Str.ofString "pieces_of"
noncomputable def n_place : Str := Str.ofString "place"
noncomputable def n_places : Str := Str.ofString "places"
noncomputable def n_plain : Str := Str.ofString "plain"
noncomputable def n_property : Str := Str.ofString "property"
noncomputable def n_put_pieces : Str := Str.ofString "put_pieces"
noncomputable def n_range : Str := Str.ofString "range"
noncomputable def n_read : Str := Str.ofString "read"
noncomputable def n_rest : Str := Str.ofString "rest"
noncomputable def n_script : Str := Str.ofString "script"
noncomputable def n_second : Str := Str.ofString "second"
noncomputable def n_self : Str := Str.ofString "self"
noncomputable def n_sign : Str := Str.ofString "sign"
noncomputable def n_sort : Str := Str.ofString "sort"
noncomputable def n_stack : Str := Str.ofString "stack"
noncomputable def n_state : Str := Str.ofString "state"
noncomputable def n_sum : Str := Str.ofString "sum"
noncomputable def n_tape : Str := Str.ofString "tape"
noncomputable def n_thing : Str := Str.ofString "thing"
noncomputable def n_things : Str := Str.ofString "things"
noncomputable def n_told : Str := Str.ofString "told"
noncomputable def n_tuple : Str := Str.ofString "tuple"
noncomputable def n_turn : Str := Str.ofString "turn"
noncomputable def n_two : Str := Str.ofString "two"
noncomputable def n_values : Str := Str.ofString "values"
noncomputable def n_way : Str := Str.ofString "way"
noncomputable def n_without_locals : Str := Str.ofString "without_locals"
noncomputable def n_word : Str := Str.ofString "word"
theorem qn_BLOCK : Str.ofString "BLOCK" = n_BLOCK := rfl
theorem qn_DROP : Str.ofString "DROP" = n_DROP := rfl
theorem qn_ELSE : Str.ofString "ELSE" = n_ELSE := rfl
theorem qn_END : Str.ofString "END" = n_END := rfl
theorem qn_FUNCTION : Str.ofString "FUNCTION" = n_FUNCTION := rfl
theorem qn_Func : Str.ofString "Func" = n_Func := rfl
theorem qn_IF : Str.ofString "IF" = n_IF := rfl
theorem qn_LOCAL_GET : Str.ofString "LOCAL_GET" = n_LOCAL_GET := rfl
theorem qn_LOCAL_SET : Str.ofString "LOCAL_SET" = n_LOCAL_SET := rfl
theorem qn_LOCAL_TEE : Str.ofString "LOCAL_TEE" = n_LOCAL_TEE := rfl
theorem qn_LOOP : Str.ofString "LOOP" = n_LOOP := rfl
theorem qn_Module : Str.ofString "Module" = n_Module := rfl
theorem qn_Piece : Str.ofString "Piece" = n_Piece := rfl
theorem qn__name__ : Str.ofString "__name__" = n__name__ := rfl
theorem qn_law_behind : Str.ofString "_law_behind" = n_law_behind := rfl
theorem qn_law_flat : Str.ofString "_law_flat" = n_law_flat := rfl
theorem qn_law_is_kept_right : Str.ofString "_law_is_kept_right" = n_law_is_kept_right := rfl
theorem qn_law_items : Str.ofString "_law_items" = n_law_items := rfl
theorem qn_law_join : Str.ofString "_law_join" = n_law_join := rfl
theorem qn_law_joined : Str.ofString "_law_joined" = n_law_joined := rfl
theorem qn_law_kept : Str.ofString "_law_kept" = n_law_kept := rfl
theorem qn_law_next : Str.ofString "_law_next" = n_law_next := rfl
theorem qn_law_pick : Str.ofString "_law_pick" = n_law_pick := rfl
theorem qn_law_run : Str.ofString "_law_run" = n_law_run := rfl
theorem qn_law_two : Str.ofString "_law_two" = n_law_two := rfl
theorem qn_wall : Str.ofString "_wall" = n_wall := rfl
theorem qn_ahead : Str.ofString "ahead" = n_ahead := rfl
theorem qn_at : Str.ofString "at" = n_at := rfl
theorem qn_body : Str.ofString "body" = n_body := rfl
theorem qn_body_of : Str.ofString "body_of" = n_body_of := rfl
theorem qn_codes : Str.ofString "codes" = n_codes := rfl
theorem qn_deep : Str.ofString "deep" = n_deep := rfl
theorem qn_due : Str.ofString "due" = n_due := rfl
theorem qn_first : Str.ofString "first" = n_first := rfl
theorem qn_found : Str.ofString "found" = n_found := rfl
theorem qn_func : Str.ofString "func" = n_func := rfl
theorem qn_given : Str.ofString "given" = n_given := rfl
theorem qn_height : Str.ofString "height" = n_height := rfl
theorem qn_here : Str.ofString "here" = n_here := rfl
theorem qn_index : Str.ofString "index" = n_index := rfl
theorem qn_inner : Str.ofString "inner" = n_inner := rfl
theorem qn_int : Str.ofString "int" = n_int := rfl
theorem qn_is_else : Str.ofString "is_else" = n_is_else := rfl
theorem qn_items : Str.ofString "items" = n_items := rfl
theorem qn_join_last : Str.ofString "join_last" = n_join_last := rfl
theorem qn_join_locals : Str.ofString "join_locals" = n_join_locals := rfl
theorem qn_k : Str.ofString "k" = n_k := rfl
theorem qn_kept : Str.ofString "kept" = n_kept := rfl
theorem qn_kind : Str.ofString "kind" = n_kind := rfl
theorem qn_len : Str.ofString "len" = n_len := rfl
theorem qn_list : Str.ofString "list" = n_list := rfl
theorem qn_local : Str.ofString "local" = n_local := rfl
theorem qn_locals_now : Str.ofString "locals_now" = n_locals_now := rfl
theorem qn_many : Str.ofString "many" = n_many := rfl
theorem qn_module : Str.ofString "module" = n_module := rfl
theorem qn_name : Str.ofString "name" = n_name := rfl
theorem qn_number : Str.ofString "number" = n_number := rfl
theorem qn_one : Str.ofString "one" = n_one := rfl
theorem qn_opened : Str.ofString "opened" = n_opened := rfl
theorem qn_other : Str.ofString "other" = n_other := rfl
theorem qn_out : Str.ofString "out" = n_out := rfl
theorem qn_own : Str.ofString "own" = n_own := rfl
theorem qn_params : Str.ofString "params" = n_params := rfl
theorem qn_part : Str.ofString "part" = n_part := rfl
theorem qn_parts_of : Str.ofString "parts_of" = n_parts_of := rfl
theorem qn_piece : Str.ofString "piece" = n_piece := rfl
theorem qn_pieces : Str.ofString "pieces" = n_pieces := rfl
theorem qn_pieces_of : Str.ofString "pieces_of" = n_pieces_of := rfl
theorem qn_place : Str.ofString "place" = n_place := rfl
theorem qn_places : Str.ofString "places" = n_places := rfl
theorem qn_plain : Str.ofString "plain" = n_plain := rfl
theorem qn_property : Str.ofString "property" = n_property := rfl
theorem qn_put_pieces : Str.ofString "put_pieces" = n_put_pieces := rfl
theorem qn_range : Str.ofString "range" = n_range := rfl
theorem qn_read : Str.ofString "read" = n_read := rfl
theorem qn_rest : Str.ofString "rest" = n_rest := rfl
theorem qn_script : Str.ofString "script" = n_script := rfl
theorem qn_second : Str.ofString "second" = n_second := rfl
theorem qn_self : Str.ofString "self" = n_self := rfl
theorem qn_sign : Str.ofString "sign" = n_sign := rfl
theorem qn_sort : Str.ofString "sort" = n_sort := rfl
theorem qn_stack : Str.ofString "stack" = n_stack := rfl
theorem qn_state : Str.ofString "state" = n_state := rfl
theorem qn_sum : Str.ofString "sum" = n_sum := rfl
theorem qn_tape : Str.ofString "tape" = n_tape := rfl
theorem qn_thing : Str.ofString "thing" = n_thing := rfl
theorem qn_things : Str.ofString "things" = n_things := rfl
theorem qn_told : Str.ofString "told" = n_told := rfl
theorem qn_tuple : Str.ofString "tuple" = n_tuple := rfl
theorem qn_turn : Str.ofString "turn" = n_turn := rfl
theorem qn_two : Str.ofString "two" = n_two := rfl
theorem qn_values : Str.ofString "values" = n_values := rfl
theorem qn_way : Str.ofString "way" = n_way := rfl
theorem qn_without_locals : Str.ofString "without_locals" = n_without_locals := rfl
theorem qn_word : Str.ofString "word" = n_word := rfl
noncomputable abbrev FH := Addr → Option Obj
noncomputable abbrev Led := List (Addr × (Obj → Prop))

structure Ext (mods : List Addr) (s s' : Shared) : Prop where
  keep : ∀ a o, s.heap.get? a = some o → (a ∈ mods ∧ s'.heap.get? a ≠ none) ∨ s'.heap.get? a = some o
  gens : s'.gens = s.gens
  drawn : s'.drawn = s.drawn
  os : s'.os = s.os

theorem Ext.refl {s : Shared} : Ext [] s s := ⟨fun _ _ h => .inr h, rfl, rfl, rfl⟩
theorem Ext.keeps {s s' : Shared} (x : Ext [] s s') : ∀ a o, s.heap.get? a = some o → s'.heap.get? a = some o :=
  fun a o h => (x.keep a o h).resolve_left (by simp)
theorem Ext.live {mods : List Addr} {s s' : Shared} (x : Ext mods s s') {a : Addr} (h : s'.heap.get? a = none) : s.heap.get? a = none := by
  cases e : s.heap.get? a with
  | none => rfl
  | some o => rcases x.keep a o e with q | q; exact absurd h q.2; rw [h] at q; cases q
theorem Ext.trans {mods : List Addr} {s s' s'' : Shared} (x : Ext mods s s') (y : Ext mods s' s'') : Ext mods s s'' :=
  ⟨fun a o h => by
    rcases x.keep a o h with q | q
    · refine .inl ⟨q.1, fun e => q.2 (y.live e)⟩
    · exact y.keep a o q, y.gens.trans x.gens, y.drawn.trans x.drawn, y.os.trans x.os⟩
theorem Ext.weaken {mods mods' : List Addr} {s s' : Shared} (x : Ext mods s s') (h : ∀ a ∈ mods, a ∈ mods') : Ext mods' s s' :=
  ⟨fun a o e => (x.keep a o e).imp (fun q => ⟨h a q.1, q.2⟩) id, x.gens, x.drawn, x.os⟩
theorem Ext.trans0 {mods : List Addr} {s s' s'' : Shared} (x : Ext mods s s') (y : Ext [] s' s'') : Ext mods s s'' := x.trans (y.weaken (by simp))
theorem Ext.of_toks {s : Shared} {t : Tok} : Ext [] s { s with toks := t } := ⟨fun _ _ h => .inr h, rfl, rfl, rfl⟩
theorem Ext.of_keeps {s : Shared} {h' : Heap} {t : Tok} (hk : ∀ b o, s.heap.get? b = some o → h'.get? b = some o) : Ext [] s { s with heap := h', toks := t } := ⟨fun _ _ h => .inr (hk _ _ h), rfl, rfl, rfl⟩
theorem Ext.push {s : Shared} {o : Obj} {t : Tok} : Ext [] s { s with heap := s.heap.push o, toks := t } := .of_keeps fun _ _ h => Heap.get?_push_of_some o h
theorem get_size (h : Heap) : h.get? h.objs.size = none := by
  cases e : h.get? h.objs.size with
  | none => rfl
  | some o => exact absurd (Heap.lt_size e) (Nat.lt_irrefl _)
theorem Ext.but {s : Shared} {h' : Heap} {t : Tok} (hk : Heap.ExtBut s.heap.objs.size s.heap h') : Ext [] s { s with heap := h', toks := t } :=
  .of_keeps fun b o e => hk b o (Nat.ne_of_lt (Heap.lt_size e)) e
theorem Ext.same {s : Shared} {a : Addr} {h' : Heap} {t : Tok} (x : Heap.SameBut a s.heap h') (hn : h'.get? a ≠ none) : Ext [a] s { s with heap := h', toks := t } :=
  ⟨fun b o h => by by_cases e : b = a; exact .inl ⟨by simp [e], by rw [e]; exact hn⟩; exact .inr ((x.2 b e).trans h), rfl, rfl, rfl⟩

noncomputable def fm : List Str → List (Option Value) → Str → Option Value
  | n :: ns, v :: vs, x => if x = n then v else fm ns vs x
  | _, _, _ => none

inductive At : List Str → List (Option Value) → Str → Value → Prop
  | head {x ns v vs} : At (x :: ns) (some v :: vs) x v
  | tail {y ns u vs x v} : At ns vs x v → At (y :: ns) (u :: vs) x v
inductive Put : List Str → List (Option Value) → Str → Value → List (Option Value) → Prop
  | head {x ns u vs v} : Put (x :: ns) (u :: vs) x v (some v :: vs)
  | tail {y ns u vs x v vs'} : Put ns vs x v vs' → Put (y :: ns) (u :: vs) x v (u :: vs')

theorem At.mem {ns vs x v} (h : At ns vs x v) : x ∈ ns := by induction h with | head => exact .head _ | tail _ ih => exact .tail _ ih
theorem Put.mem {ns vs x v vs'} (h : Put ns vs x v vs') : x ∈ ns := by induction h with | head => exact .head _ | tail _ ih => exact .tail _ ih
theorem At.fm {ns vs x v} (h : At ns vs x v) (nd : ns.Nodup) : fm ns vs x = some v := by
  induction h with
  | head => simp [Mine.fm]
  | @tail y ns u vs x v h ih =>
    have := List.nodup_cons.mp nd
    have hne : x ≠ y := fun e => this.1 (e ▸ h.mem)
    simp only [Mine.fm, if_neg hne]; exact ih this.2
theorem Put.fm {ns vs x v vs'} (h : Put ns vs x v vs') (nd : ns.Nodup) : (fun y => if y = x then some v else fm ns vs y) = fm ns vs' := by
  induction h with
  | head => funext z; simp only [Mine.fm]; split <;> rfl
  | @tail y ns u vs x v vs' h ih =>
    have := List.nodup_cons.mp nd
    have hne : x ≠ y := fun e => this.1 (e ▸ h.mem)
    funext z
    simp only [Mine.fm]
    by_cases hz : z = y
    · subst hz; rw [if_neg (fun e => hne (Eq.symm e)), if_pos rfl, if_pos rfl]
    · simp only [if_neg hz]; exact congrFun (ih this.2) z

theorem fm_none : ∀ (others : List Str) (x : Str), fm ([] ++ others) ([] ++ others.map fun _ => none) x = none
  | [], _ => rfl
  | y :: r, x => by
    show (if x = y then none else fm ([] ++ r) ([] ++ r.map fun _ => none) x) = none
    split
    · rfl
    · exact fm_none r x

theorem fm_binds : ∀ (binds : List (Str × Value)) (others : List Str), (binds.map (·.1) ++ others).Nodup →
    (fun x => binds.reverse.lookup x) = fm (binds.map (·.1) ++ others) (binds.map (fun p => some p.2) ++ others.map fun _ => none) := by
  intro binds
  induction binds with
  | nil =>
    intro others _
    funext x
    exact (fm_none others x).symm
  | cons p r ih =>
    intro others nd
    have nd' := List.nodup_cons.mp (show (p.1 :: (r.map (·.1) ++ others)).Nodup from nd)
    funext x
    have e : r.reverse.lookup x = fm (r.map (·.1) ++ others) (r.map (fun p => some p.2) ++ others.map fun _ => none) x := congrFun (ih others nd'.2) x
    simp only [List.map_cons, List.cons_append, fm]
    rw [List.reverse_cons, List.lookup_append, e]
    by_cases hx : x = p.1
    · subst hx
      rw [if_pos rfl]
      have hn : fm (r.map (·.1) ++ others) (r.map (fun p => some p.2) ++ others.map fun _ => none) p.1 = none := by
        rw [← e]
        rw [List.lookup_eq_none_iff]
        intro q hq
        have : p.1 ≠ q.1 := fun h => nd'.1 (List.mem_append_left _ (List.mem_map.mpr ⟨q, List.mem_reverse.mp hq, h.symm⟩))
        simpa using this
      rw [hn]; obtain ⟨a, b⟩ := p; simp
    · rw [if_neg hx]
      have : List.lookup x [p] = none := by simp [hx]
      rw [this, Option.or_none]

inductive Mem : Led → Addr → (Obj → Prop) → Prop
  | head {a P r} : Mem ((a, P) :: r) a P
  | tail {p r a P} : Mem r a P → Mem (p :: r) a P
inductive Upd : Led → Addr → (Obj → Prop) → (Obj → Prop) → Led → Prop
  | head {a P P' r} : Upd ((a, P) :: r) a P P' ((a, P') :: r)
  | tail {p r a P P' r'} : Upd r a P P' r' → Upd (p :: r) a P P' (p :: r')
theorem Mem.mem {l : Led} {a P} (h : Mem l a P) : (a, P) ∈ l := by induction h with | head => exact .head _ | tail _ ih => exact .tail _ ih
theorem Upd.mem {l : Led} {a P P' l'} (h : Upd l a P P' l') : (a, P) ∈ l := by induction h with | head => exact .head _ | tail _ ih => exact .tail _ ih
theorem Upd.addrs {l : Led} {a P P' l'} (h : Upd l a P P' l') : l'.map (·.1) = l.map (·.1) := by
  induction h with | head => rfl | tail _ ih => simp [ih]
theorem Upd.cases {l : Led} {a P P' l'} (h : Upd l a P P' l') (nd : (l.map (·.1)).Nodup) : ∀ p ∈ l', (p = (a, P')) ∨ (p ∈ l ∧ p.1 ≠ a) := by
  induction h with
  | @head a P P' r =>
    intro p hp
    rcases List.mem_cons.mp hp with rfl | hp
    · exact .inl rfl
    · refine .inr ⟨.tail _ hp, fun e => ?_⟩
      have : a ∈ r.map (·.1) := List.mem_map.mpr ⟨p, hp, e⟩
      exact (List.nodup_cons.mp nd).1 this
  | @tail q r a P P' r' h ih =>
    intro p hp
    rcases List.mem_cons.mp hp with rfl | hp
    · refine .inr ⟨.head _, fun e => ?_⟩
      have : p.1 ∈ r.map (·.1) := List.mem_map.mpr ⟨(a, P), h.mem, e.symm⟩
      exact (List.nodup_cons.mp nd).1 this
    · rcases ih (List.nodup_cons.mp nd).2 p hp with h1 | h1
      · exact .inl h1
      · exact .inr ⟨.tail _ h1.1, h1.2⟩
structure EnvOk (env : Env) (ns : List Str) : Prop where
  kind : env.scope.kind = .function
  globals : env.globals = mainGlobals
  builtins : env.builtins = builtinsNs
  names : ∀ x ∈ ns, env.kindOf x = some .local
  nodup : ns.Nodup
  debug : ∀ x ∈ ns, (x == ("__debug__" : Str)) = false

structure S (hb : Heap) (s0 : Shared) (mods : List Addr) (g0 : FH) (env : Env) (ns : List Str) (vs : List (Option Value)) (led : Led) (g : FH) (s : Shared) : Prop where
  eok : EnvOk env ns
  nsl : s.heap.Ns env.locals (fm ns vs)
  lok : ∀ p ∈ led, ∃ o, s.heap.get? p.1 = some o ∧ p.2 o
  nodup : (env.locals :: led.map (·.1)).Nodup
  out : ∀ a ∈ env.locals :: led.map (·.1), g a = none ∧ (s0.heap.get? a = none ∨ a ∈ mods)
  hbg : ∀ a o, hb.get? a = some o → g0 a = some o
  gin : ∀ a o, g a = some o → s.heap.get? a = some o
  ggr : ∀ a o, g0 a = some o → g a = some o
  gnew : ∀ a o, g a = some o → g0 a = some o ∨ s0.heap.get? a = none
  ext : Ext mods s0 s

section
variable {hb : Heap} {s0 : Shared} {mods : List Addr} {g0 : FH} {env : Env} {ns : List Str} {vs : List (Option Value)} {led : Led} {g : FH} {s s' : Shared}

theorem S.hbs (σ : S hb s0 mods g0 env ns vs led g s) : ∀ a o, hb.get? a = some o → s.heap.get? a = some o := fun a o h => σ.gin a o (σ.ggr a o (σ.hbg a o h))

theorem S.there (σ : S hb s0 mods g0 env ns vs led g s) {a : Addr} (h : a ∈ env.locals :: led.map (·.1)) : ∃ o, s.heap.get? a = some o := by
  rcases List.mem_cons.mp h with rfl | h
  · obtain ⟨o, _, _, e, _⟩ := σ.nsl; exact ⟨o, e⟩
  · obtain ⟨p, hp, rfl⟩ := List.mem_map.mp h
    obtain ⟨o, e, _⟩ := σ.lok p hp; exact ⟨o, e⟩
theorem S.lt (σ : S hb s0 mods g0 env ns vs led g s) {a : Addr} (h : a ∈ env.locals :: led.map (·.1)) : a < s.heap.objs.size :=
  let ⟨_, e⟩ := σ.there h; Heap.lt_size e
theorem S.get (σ : S hb s0 mods g0 env ns vs led g s) {a : Addr} {P : Obj → Prop} (h : Mem led a P) : ∃ o, s.heap.get? a = some o ∧ P o := σ.lok _ h.mem
theorem S.grow (σ : S hb s0 mods g0 env ns vs led g s) (x : Ext [] s s') : S hb s0 mods g0 env ns vs led g s' where
  eok := σ.eok
  nsl := σ.nsl.keeps x.keeps
  lok p hp := let ⟨o, e, h⟩ := σ.lok p hp; ⟨o, x.keeps _ _ e, h⟩
  nodup := σ.nodup
  out := σ.out
  hbg := σ.hbg
  gin a o h := x.keeps a o (σ.gin a o h)
  ggr := σ.ggr
  gnew := σ.gnew
  ext := σ.ext.trans0 x
structure Grown (g : FH) (s : Shared) (g' : FH) (s' : Shared) : Prop where
  gin : ∀ a o, g' a = some o → s'.heap.get? a = some o
  ggr : ∀ a o, g a = some o → g' a = some o
  gnew : ∀ a o, g' a = some o → g a = some o ∨ s.heap.get? a = none

theorem S.grown (σ : S hb s0 mods g0 env ns vs led g s) (σ' : S hb s0 mods g0 env ns vs led g s') {g' : FH} (y : Grown g s g' s') : S hb s0 mods g0 env ns vs led g' s' where
  eok := σ'.eok
  nsl := σ'.nsl
  lok := σ'.lok
  nodup := σ'.nodup
  out a ha := by
    refine ⟨?_, (σ'.out a ha).2⟩
    cases e : g' a with
    | none => rfl
    | some o =>
      rcases y.gnew a o e with h | h
      · rw [(σ.out a ha).1] at h; cases h
      · obtain ⟨o', e'⟩ := σ.there ha; rw [h] at e'; cases e'
  hbg := σ.hbg
  gin := y.gin
  ggr a o h := y.ggr a o (σ.ggr a o h)
  gnew a o h := by
    rcases y.gnew a o h with h | h
    · exact σ.gnew a o h
    · exact .inr (σ.ext.live h)
  ext := σ'.ext
theorem S.growN (σ : S hb s0 mods g0 env ns vs led g s) (x : Ext [] s s') {g' : FH} (y : Grown g s g' s') : S hb s0 mods g0 env ns vs led g' s' := S.grown σ (σ.grow x) y
theorem S.mod (σ : S hb s0 mods g0 env ns vs led g s) {a : Addr} {P P' : Obj → Prop} {led' : Led} (u : Upd led a P P' led') (x : Ext [a] s s') {o : Obj} (e : s'.heap.get? a = some o) (h : P' o) :
    S hb s0 mods g0 env ns vs led' g s' := by
  have ha : a ∈ led.map (·.1) := List.mem_map.mpr ⟨_, u.mem, rfl⟩
  have hn := List.nodup_cons.mp σ.nodup
  have hL : env.locals ≠ a := fun q => hn.1 (q ▸ ha)
  have kp : ∀ b o, b ≠ a → s.heap.get? b = some o → s'.heap.get? b = some o := fun b o hb e => (x.keep b o e).resolve_left (fun q => hb (List.mem_singleton.mp q.1))
  refine ⟨σ.eok, ?_, ?_, ?_, ?_, σ.hbg, ?_, σ.ggr, σ.gnew, ?_⟩
  · obtain ⟨o', es, ep, e', r⟩ := σ.nsl; exact ⟨o', es, ep, kp _ _ hL e', r⟩
  · intro p hp
    rcases u.cases hn.2 p hp with rfl | ⟨h1, h2⟩
    · exact ⟨o, e, h⟩
    · obtain ⟨o', e', h'⟩ := σ.lok p h1; exact ⟨o', kp _ _ h2 e', h'⟩
  · rw [u.addrs]; exact σ.nodup
  · rw [u.addrs]; exact σ.out
  · intro b o' h'
    refine kp b o' (fun q => ?_) (σ.gin b o' h')
    rw [q, (σ.out a (.tail _ ha)).1] at h'; cases h'
  · refine ⟨fun b o' h' => ?_, x.gens.trans σ.ext.gens, x.drawn.trans σ.ext.drawn, x.os.trans σ.ext.os⟩
    rcases σ.ext.keep b o' h' with q | q
    · exact .inl ⟨q.1, fun z => q.2 (x.live z)⟩
    · by_cases hb : b = a
      · subst hb
        rcases (σ.out b (.tail _ ha)).2 with z | z
        · rw [z] at h'; cases h'
        · exact .inl ⟨z, by rw [e]; exact Option.some_ne_none _⟩
      · exact .inr (kp b o' hb q)
theorem S.alloc (σ : S hb s0 mods g0 env ns vs led g s) {a : Addr} {P : Obj → Prop} {o : Obj} (hge : s.heap.get? a = none) (x : Ext [] s s') (e : s'.heap.get? a = some o) (h : P o) :
    S hb s0 mods g0 env ns vs ((a, P) :: led) g s' := by
  have σ' := σ.grow x
  refine ⟨σ.eok, σ'.nsl, ?_, ?_, ?_, σ.hbg, σ'.gin, σ.ggr, σ.gnew, σ'.ext⟩
  · intro p hp
    rcases List.mem_cons.mp hp with rfl | hp
    · exact ⟨o, e, h⟩
    · exact σ'.lok p hp
  · have hn := List.nodup_cons.mp σ.nodup
    have h0 : a ∉ env.locals :: led.map (·.1) := fun q => by obtain ⟨o', e'⟩ := σ.there q; rw [hge] at e'; cases e'
    have h1 : env.locals ≠ a := fun q => h0 (by rw [q]; exact .head _)
    have h2 : a ∉ led.map (·.1) := fun q => h0 (.tail _ q)
    simp only [List.map_cons, List.nodup_cons, List.mem_cons, not_or]
    exact ⟨⟨h1, hn.1⟩, h2, hn.2⟩
  · intro b hb
    simp only [List.map_cons, List.mem_cons] at hb
    rcases hb with rfl | rfl | hb
    · exact σ.out _ (.head _)
    · refine ⟨?_, .inl (σ.ext.live hge)⟩
      cases q : g b with
      | none => rfl
      | some o' => have := σ.gin b o' q; rw [hge] at this; cases this
    · exact σ.out b (.tail _ hb)

noncomputable def FH.put (g : FH) (a : Addr) (o : Obj) : FH := fun b => if b = a then some o else g b
theorem FH.put_self {g : FH} {a : Addr} {o : Obj} : g.put a o a = some o := if_pos rfl
theorem FH.put_le {g : FH} {a : Addr} {o : Obj} (h : g a = none) : ∀ b o', g b = some o' → g.put a o b = some o' := fun b o' e => by
  have : b ≠ a := fun q => by rw [q, h] at e; cases e
  simp [FH.put, this, e]
theorem S.ice (σ : S hb s0 mods g0 env ns vs led g s) {a : Addr} {o : Obj} (hge : s.heap.get? a = none) (x : Ext [] s s') (e : s'.heap.get? a = some o) :
    S hb s0 mods g0 env ns vs led (g.put a o) s' ∧ ∀ b o', g b = some o' → g.put a o b = some o' := by
  have hn : g a = none := by
    cases q : g a with
    | none => rfl
    | some o' => have := σ.gin a o' q; rw [hge] at this; cases this
  refine ⟨σ.growN x ⟨fun b o' h => ?_, FH.put_le hn, fun b o' h => ?_⟩, FH.put_le hn⟩
  · by_cases q : b = a
    · subst q; rw [FH.put_self] at h; cases h; exact e
    · simp only [FH.put, if_neg q] at h; exact x.keeps _ _ (σ.gin _ _ h)
  · by_cases q : b = a
    · subst q; exact .inr hge
    · simp only [FH.put, if_neg q] at h; exact .inl h
theorem S.frz (σ : S hb s0 mods g0 env ns vs led g s) {a : Addr} {P : Obj → Prop} {led' : Led} (hp : led.Perm ((a, P) :: led')) (hge : s0.heap.get? a = none) :
    ∃ o, P o ∧ s.heap.get? a = some o ∧ S hb s0 mods g0 env ns vs led' (g.put a o) s ∧ ∀ b o', g b = some o' → g.put a o b = some o' := by
  have hm : (a, P) ∈ led := hp.mem_iff.mpr (.head _)
  obtain ⟨o, e, h⟩ := σ.lok _ hm
  have ha : a ∈ led.map (·.1) := List.mem_map.mpr ⟨_, hm, rfl⟩
  have hn := (σ.out a (.tail _ ha)).1
  refine ⟨o, h, e, ⟨σ.eok, σ.nsl, fun p hp' => σ.lok p (hp.mem_iff.mpr (.tail _ hp')), ?_, ?_, σ.hbg, ?_, fun b o' q => FH.put_le hn b o' (σ.ggr b o' q), ?_, σ.ext⟩, FH.put_le hn⟩
  · have := ((hp.map (·.1)).cons env.locals).nodup_iff.mp σ.nodup
    simp only [List.map_cons, List.nodup_cons, List.mem_cons, not_or] at this ⊢
    exact ⟨this.1.2, this.2.2⟩
  · intro b hb
    have nd := ((hp.map (·.1)).cons env.locals).nodup_iff.mp σ.nodup
    simp only [List.map_cons, List.nodup_cons, List.mem_cons, not_or] at nd
    have hb' : b ∈ env.locals :: led.map (·.1) := by
      rcases List.mem_cons.mp hb with rfl | hb
      · exact .head _
      · exact .tail _ ((hp.map (·.1)).mem_iff.mpr (.tail _ hb))
    have hne : b ≠ a := by
      rintro rfl
      rcases List.mem_cons.mp hb with q | q
      · exact nd.1.1 q.symm
      · exact nd.2.1 q
    refine ⟨?_, (σ.out b hb').2⟩
    simp only [FH.put, if_neg hne]; exact (σ.out b hb').1
  · intro b o' h'
    by_cases q : b = a
    · subst q; rw [FH.put_self] at h'; cases h'; exact e
    · simp only [FH.put, if_neg q] at h'; exact σ.gin _ _ h'
  · intro b o' h'
    by_cases q : b = a
    · subst q; exact .inr hge
    · simp only [FH.put, if_neg q] at h'; exact σ.gnew _ _ h'

theorem S.drop (σ : S hb s0 mods g0 env ns vs led g s) {led' : Led} (hs : led'.Sublist led) : S hb s0 mods g0 env ns vs led' g s where
  eok := σ.eok
  nsl := σ.nsl
  lok p hp := σ.lok p (hs.subset hp)
  nodup := σ.nodup.sublist ((hs.map _).cons_cons _)
  out a ha := σ.out a (((hs.map _).cons_cons _).subset ha)
  hbg := σ.hbg
  gin := σ.gin
  ggr := σ.ggr
  gnew := σ.gnew
  ext := σ.ext
theorem S.set (σ : S hb s0 mods g0 env ns vs led g s) {x : Str} {v : Value} {vs' : List (Option Value)} (u : Put ns vs x v vs') {h' : Heap} {t : Tok}
    (hn : h'.Ns env.locals (fun y => if y = x then some v else fm ns vs y)) (hs : Heap.SameBut env.locals s.heap h') : S hb s0 mods g0 env ns vs' led g { s with heap := h', toks := t } := by
  have hnd := List.nodup_cons.mp σ.nodup
  have ho := σ.out env.locals (.head _)
  refine ⟨σ.eok, u.fm σ.eok.nodup ▸ hn, fun p hp => ?_, σ.nodup, σ.out, σ.hbg, fun a o e => ?_, σ.ggr, σ.gnew, ?_⟩
  · obtain ⟨o, e, h⟩ := σ.lok p hp
    exact ⟨o, (hs.2 _ fun q => hnd.1 (q ▸ List.mem_map.mpr ⟨p, hp, rfl⟩)).trans e, h⟩
  · exact (hs.2 _ fun q => by rw [q, ho.1] at e; cases e).trans (σ.gin a o e)
  · have hl : h'.get? env.locals ≠ none := by obtain ⟨o, _, _, e, _⟩ := hn; rw [e]; exact Option.some_ne_none _
    have x : Ext [env.locals] s { s with heap := h', toks := t } := .same hs hl
    refine ⟨fun a o e => ?_, σ.ext.gens, σ.ext.drawn, σ.ext.os⟩
    rcases σ.ext.keep a o e with q | q
    · exact .inl ⟨q.1, fun z => q.2 (x.live z)⟩
    · by_cases hL : a = env.locals
      · subst hL
        rcases ho.2 with z | z
        · rw [z] at e; cases e
        · exact .inl ⟨z, hl⟩
      · exact .inr ((hs.2 a hL).trans q)

variable {M : Model} {A : Around} {E : Value → Shared → Prop}

theorem w_load (σ : S hb s0 mods g0 env ns vs led g s) {x : Str} {pos : Pos} {v : Value} {Q : Value → Shared → Prop} (hm : At ns vs x v) (h : Q v s) :
    wpAny M A (eval (.Name x pos) env) Q E s :=
  wpAny_Name (wpAny_loadName_local σ.eok.kind (σ.eok.names x hm.mem) σ.nsl (hm.fm σ.eok.nodup) h) (σ.eok.debug x hm.mem)
theorem w_loadName (σ : S hb s0 mods g0 env ns vs led g s) {x : Str} {v : Value} {Q : Value → Shared → Prop} (hm : At ns vs x v) (h : Q v s) :
    wpAny M A (loadName env x) Q E s := wpAny_loadName_local σ.eok.kind (σ.eok.names x hm.mem) σ.nsl (hm.fm σ.eok.nodup) h
theorem w_store (σ : S hb s0 mods g0 env ns vs led g s) {x : Str} {v : Value} {vs' : List (Option Value)} {Q : Unit → Shared → Prop} (u : Put ns vs x v vs')
    (h : ∀ s', S hb s0 mods g0 env ns vs' led g s' → Q () s') : wpAny M A (storeName env x v) Q E s :=
  wpAny_storeName_local (σ.eok.names x u.mem) σ.nsl (fun h' hn hs => h _ (σ.set u hn hs)) (by rw [σ.eok.kind]; rfl)

noncomputable def GV (hb : Heap) (x : Str) (v : Value) : Prop := ∃ mg, hb.Ns mainGlobals mg ∧ mg x = some v
noncomputable def BV (hb : Heap) (x : Str) (v : Value) : Prop := ∃ mg mb, hb.Ns mainGlobals mg ∧ mg x = none ∧ hb.Ns builtinsNs mb ∧ mb x = some v
noncomputable def EnvG (env : Env) (gs : List Str) : Prop := ∀ x ∈ gs, env.kindOf x = some .globalImplicit ∧ (x == ("__debug__" : Str)) = false

theorem w_global (σ : S hb s0 mods g0 env ns vs led g s) {gs : List Str} (hG : EnvG env gs) {x : Str} {pos : Pos} {v : Value} {Q : Value → Shared → Prop} (gv : GV hb x v) (hm : x ∈ gs) (h : Q v s) :
    wpAny M A (eval (.Name x pos) env) Q E s := by
  obtain ⟨mg, hg, hv⟩ := gv
  exact Calls.Name_function_global σ.eok.kind (hG x hm).1 (Calls.loadGlobal_global (σ.eok.globals ▸ hg.keeps σ.hbs) hv h) (hG x hm).2
theorem w_builtin (σ : S hb s0 mods g0 env ns vs led g s) {gs : List Str} (hG : EnvG env gs) {x : Str} {pos : Pos} {v : Value} {Q : Value → Shared → Prop} (bv : BV hb x v) (hm : x ∈ gs) (h : Q v s) :
    wpAny M A (eval (.Name x pos) env) Q E s := by
  obtain ⟨mg, mb, hg, hn, hb', hv⟩ := bv
  exact Calls.Name_function_global σ.eok.kind (hG x hm).1 (Calls.loadGlobal_builtin (σ.eok.globals ▸ hg.keeps σ.hbs) hn (σ.eok.builtins ▸ hb'.keeps σ.hbs) hv h) (hG x hm).2
noncomputable def Room (k : Nat) (A : Around) : Prop := A.handled = none ∧ A.depth + k < recursionLimit ∧ A.units + 8 * k + 8 < cLine
theorem Room.le {k k' : Nat} {A : Around} (h : Room k A) (hk : k' ≤ k := by lia) : Room k' A := ⟨h.1, Nat.lt_of_le_of_lt (Nat.add_le_add_left hk _) h.2.1, Nat.lt_of_le_of_lt (Nat.add_le_add_right (Nat.add_le_add_left (Nat.mul_le_mul_left 8 hk) _) 8) h.2.2⟩
theorem Room.deeper {k : Nat} {A : Around} {env : Env} (h : Room (k + 1) A) : Room k (A.deeper env) :=
  ⟨h.1, (dp1 h.2.1 : A.depth + 1 + k < _), (un1 h.2.2 (by decide) : A.units + 3 + 8 * k + 8 < _)⟩
theorem Room.in1 {k : Nat} {A : Around} (h : Room (k + 1) A) : Room k A.in1 :=
  ⟨h.1, (Nat.lt_of_succ_lt h.2.1 : A.depth + k < _), (un1 h.2.2 (by decide) : A.units + 1 + 8 * k + 8 < _)⟩
structure FN (hb : Heap) (f : Addr) (fd : FuncData) : Prop where
  fn : ∃ o, hb.get? f = some o ∧ o.data = .func fd
  code : hb.CodeRec fd.code fd.qualname
  lim : hb.NoLimit

variable {prog : Program} {w : World}
theorem enter {R : Result → Shared → Prop} {f : Addr} {fd : FuncData} {body : List Stmt} {args : List Value} {binds : List (Str × Value)} (others : List Str)
    (fn : FN hb f fd) (room : A.depth < recursionLimit) (hbody : fd.body = .stmts body) (hbind : BindsTo s fd ⟨args, []⟩ binds)
    (hcell : ∀ x ∈ fd.scope.names, x.2 ≠ .cell) (hloc : ∀ x ∈ binds.map (·.1) ++ others, fd.scope.names.lookup x = some .local) (hnd : (binds.map (·.1) ++ others).Nodup) (hdb : ∀ x ∈ binds.map (·.1) ++ others, (x == ("__debug__" : Str)) = false)
    (hgl : fd.globals = mainGlobals) (hbu : fd.builtins = builtinsNs)
    (hbg : ∀ a o, hb.get? a = some o → g a = some o) (gin : ∀ a o, g a = some o → s.heap.get? a = some o)
    (hled : ∀ p ∈ led, ∃ o, s.heap.get? p.1 = some o ∧ p.2 o) (hnod : (led.map (·.1)).Nodup) (hout : ∀ p ∈ led, g p.1 = none ∧ p.1 ∈ mods)
    (h : ∀ env E s', env.scope = fd.scope → env.cells = fd.closure → env.code = fd.code →
      S hb s mods g env (binds.map (·.1) ++ others) (binds.map (fun p => some p.2) ++ others.map fun _ => none) led g s' →
      wpAny (model prog w) (A.deeper env) (execs body env) (fun fl s' => R (.ok (.ret (match fl with | .ret v => v | _ => .none))) s') E s')
    (hco : fd.scope.isCoroutine = false := by rfl) (hgen : fd.scope.isGenerator = false := by rfl) (hk : fd.scope.kind = .function := by rfl) :
    codeAny (model prog w) A (.call (.ref f) ⟨args, []⟩) R s := by
  obtain ⟨⟨o, ho, hdata⟩, hcd, hlim⟩ := fn
  have hbs : ∀ a o, hb.get? a = some o → s.heap.get? a = some o := fun a o e => gin a o (hbg a o e)
  refine codeAny_call_def room (hbs _ _ ho) hdata (hlim.keeps hbs) (hcd.keeps hbs) hbody hbind hcell (fun x hx => hloc _ (List.mem_append_left _ (List.mem_map.mpr ⟨x, hx, rfl⟩))) (fun h₀ hns hk₀ => ?_) hco hgen hk
  refine h (callEnv fd s.heap.objs.size f) _ _ rfl rfl rfl ⟨⟨hk, hgl, hbu, hloc, hnd, hdb⟩, ?_, ?_, ?_, ?_, hbg, ?_, fun _ _ e => e, fun _ _ e => .inl e, ⟨fun a o e => .inr (hk₀ a o e), rfl, rfl, rfl⟩⟩
  · rw [← fm_binds binds others hnd]; exact hns
  · intro p hp; obtain ⟨o, e, q⟩ := hled p hp; exact ⟨o, hk₀ _ _ e, q⟩
  · refine List.nodup_cons.mpr ⟨fun q => ?_, hnod⟩
    obtain ⟨p, hp, e⟩ := List.mem_map.mp q
    obtain ⟨o, e', _⟩ := hled p hp
    exact absurd (Heap.lt_size e') (by rw [e]; exact Nat.lt_irrefl _)
  · intro a ha
    rcases List.mem_cons.mp ha with rfl | ha
    · refine ⟨?_, .inl (get_size _)⟩
      cases q : g s.heap.objs.size with
      | none => exact q
      | some o => exact absurd (Heap.lt_size (gin _ _ q)) (Nat.lt_irrefl _)
    · obtain ⟨p, hp, rfl⟩ := List.mem_map.mp ha
      exact ⟨(hout p hp).1, .inr (hout p hp).2⟩
  · intro a o e; exact hk₀ _ _ (gin a o e)
end
noncomputable def IsL (vs : List Value) (o : Obj) : Prop := ∃ n, o = { cls := .type "list", data := .seq vs.toArray n }
noncomputable def IsT (vs : List Value) (o : Obj) : Prop := ∃ n, o = { cls := .type "tuple", data := .seq vs.toArray n }
noncomputable def TG (g : FH) (a : Addr) (vs : List Value) : Prop := ∃ o, g a = some o ∧ IsT vs o
noncomputable def LG (g : FH) (a : Addr) (vs : List Value) : Prop := ∃ o, g a = some o ∧ IsL vs o
noncomputable def GLe (g g' : FH) : Prop := ∀ a o, g a = some o → g' a = some o
theorem GLe.refl {g : FH} : GLe g g := fun _ _ e => e
theorem GLe.trans {g g' g'' : FH} (x : GLe g g') (y : GLe g' g'') : GLe g g'' := fun a o e => y a o (x a o e)
theorem TG.mono {g g' : FH} {a vs} (x : TG g a vs) (h : GLe g g') : TG g' a vs := let ⟨o, e, i⟩ := x; ⟨o, h _ _ e, i⟩
theorem LG.mono {g g' : FH} {a vs} (x : LG g a vs) (h : GLe g g') : LG g' a vs := let ⟨o, e, i⟩ := x; ⟨o, h _ _ e, i⟩
noncomputable def HL (s : Shared) (a : Addr) (vs : List Value) : Prop := ∃ o, s.heap.get? a = some o ∧ IsL vs o
noncomputable def HT (s : Shared) (a : Addr) (vs : List Value) : Prop := ∃ o, s.heap.get? a = some o ∧ IsT vs o
theorem HL.plain {s : Shared} {a vs} (h : HL s a vs) : s.heap.PlainList a vs.toArray := let ⟨_, e, n, i⟩ := h; ⟨n, i ▸ e⟩
theorem HL.isList {s : Shared} {a vs} (h : HL s a vs) : s.heap.IsList a vs.toArray := h.plain.isList
theorem HT.isTup {s : Shared} {a vs} (h : HT s a vs) : IsTup s.heap a vs.toArray := let ⟨o, e, n, i⟩ := h; ⟨o, e, by rw [i], n, by rw [i]⟩
theorem HT.isTuple {s : Shared} {a vs} (h : HT s a vs) : s.heap.IsTuple a vs.toArray := h.isTup
theorem PlainL_HL {s : Shared} {h' : Heap} {t : Tok} {a : Addr} {vs : List Value} {its : Array Value} (h : h'.PlainList a its) (e : its = vs.toArray) : HL { s with heap := h', toks := t } a vs := let ⟨n, q⟩ := h; ⟨_, q, n, by rw [e]⟩

section
variable {prog : Program} {w : World} {A : Around} {E : Value → Shared → Prop}
variable {hb : Heap} {s0 : Shared} {mods : List Addr} {g0 : FH} {env : Env} {ns : List Str} {vs : List (Option Value)} {led : Led} {g : FH} {s s' : Shared}

theorem S.HL (σ : S hb s0 mods g0 env ns vs led g s) {a : Addr} {l : List Value} (h : Mem led a (IsL l)) : HL s a l := σ.get h
theorem S.HLg (σ : S hb s0 mods g0 env ns vs led g s) {a : Addr} {l : List Value} (h : LG g a l) : Mine.HL s a l := let ⟨o, e, i⟩ := h; ⟨o, σ.gin _ _ e, i⟩
theorem S.HT (σ : S hb s0 mods g0 env ns vs led g s) {a : Addr} {l : List Value} (h : TG g a l) : HT s a l := let ⟨o, e, i⟩ := h; ⟨o, σ.gin _ _ e, i⟩
theorem S.toks (σ : S hb s0 mods g0 env ns vs led g s) {t : Tok} : S hb s0 mods g0 env ns vs led g { s with toks := t } := σ.grow .of_toks

-- what stands behind an expression, by name
section
variable (prog : Program) (w : World) (A : Around) (E : Value → Shared → Prop) (env : Env)
noncomputable abbrev kRet (Q : Flow → Shared → Prop) : Value → Shared → Prop := fun v s' => Q (.ret v) s'
noncomputable abbrev kRest {α : Type} (rest : List Stmt) (Q : Flow → Shared → Prop) : α → Shared → Prop := fun _ s' => wpAny (model prog w) A (execs rest env) Q E s'
noncomputable abbrev kSet (x : Str) (rest : List Stmt) (Q : Flow → Shared → Prop) : Value → Shared → Prop := fun v s' => wpAny (model prog w) A (storeName env x v) (kRest prog w A E env rest Q) E s'
noncomputable abbrev kSub3 (v ov : Value) (rest : List Stmt) (Q : Flow → Shared → Prop) : Value → Shared → Prop := fun iv s' => wpAny (model prog w) A (setItem ov iv v) (kRest prog w A E env rest Q) E s'
noncomputable abbrev kSub2 (v : Value) (i : Expr) (rest : List Stmt) (Q : Flow → Shared → Prop) : Value → Shared → Prop := fun ov s' => wpAny (model prog w) A (eval i env) (kSub3 prog w A E env v ov rest Q) E s'
noncomputable abbrev kSub1 (o i : Expr) (rest : List Stmt) (Q : Flow → Shared → Prop) : Value → Shared → Prop := fun v s' => wpAny (model prog w) A (eval o env) (kSub2 prog w A E env v i rest Q) E s'
noncomputable abbrev kAt2 (v : Value) (attr : Str) (rest : List Stmt) (Q : Flow → Shared → Prop) : Value → Shared → Prop := fun ov s' => wpAny (model prog w) A (setAttr ov attr v) (kRest prog w A E env rest Q) E s'
noncomputable abbrev kAt1 (o : Expr) (attr : Str) (rest : List Stmt) (Q : Flow → Shared → Prop) : Value → Shared → Prop := fun v s' => wpAny (model prog w) A (eval o env) (kAt2 prog w A E env v attr rest Q) E s'
noncomputable abbrev kTr (Q : Bool → Shared → Prop) : Value → Shared → Prop := fun v s' => wpAny (model prog w) A (truthy v) Q E s'
noncomputable abbrev kCmp2 (op : CmpOp) (Q : Value → Shared → Prop) (a : Value) : Value → Shared → Prop := fun b s' => wpAny (model prog w) A (compareOp op a b) Q E s'
noncomputable abbrev kCmp (op : CmpOp) (r : Expr) (Q : Value → Shared → Prop) : Value → Shared → Prop := fun a s' => wpAny (model prog w) A (eval r env) (kCmp2 prog w A E op Q a) E s'
noncomputable abbrev kNot (Q : Bool → Shared → Prop) : Bool → Shared → Prop := fun b s' => Q (!b) s'
noncomputable abbrev kAnd (rest : List Expr) (Q : Bool → Shared → Prop) : Bool → Shared → Prop := fun b s' => (b = true → wpAny (model prog w) A (allTrue .And rest env) Q E s') ∧ (b = false → Q false s')
noncomputable abbrev kOr (rest : List Expr) (Q : Bool → Shared → Prop) : Bool → Shared → Prop := fun b s' => (b = true → Q true s') ∧ (b = false → wpAny (model prog w) A (allTrue .Or rest env) Q E s')
noncomputable abbrev kCh4 (op₂ : CmpOp) (b : Value) (Q : Bool → Shared → Prop) : Value → Shared → Prop := fun d s' => wpAny (model prog w) A (compareOp op₂ b d) (kTr prog w A E Q) E s'
noncomputable abbrev kCh3 (op₂ : CmpOp) (r₂ : Expr) (b : Value) (Q : Bool → Shared → Prop) : Bool → Shared → Prop := fun t s' => (t = true → wpAny (model prog w) A (eval r₂ env) (kCh4 prog w A E op₂ b Q) E s') ∧ (t = false → Q false s')
noncomputable abbrev kCh2 (op₁ op₂ : CmpOp) (r₂ : Expr) (a : Value) (Q : Bool → Shared → Prop) : Value → Shared → Prop := fun b s' => wpAny (model prog w) A (compareOp op₁ a b) (kTr prog w A E (kCh3 prog w A E env op₂ r₂ b Q)) E s'
noncomputable abbrev kCh1 (op₁ op₂ : CmpOp) (r₁ r₂ : Expr) (Q : Bool → Shared → Prop) : Value → Shared → Prop := fun a s' => wpAny (model prog w) A (eval r₁ env) (kCh2 prog w A E env op₁ op₂ r₂ a Q) E s'
noncomputable abbrev kBin2 (op : Operator) (Q : Value → Shared → Prop) (a : Value) : Value → Shared → Prop := fun b s' => wpAny (model prog w) A (binaryOp op a b) Q E s'
noncomputable abbrev kBin (op : Operator) (r : Expr) (Q : Value → Shared → Prop) : Value → Shared → Prop := fun a s' => wpAny (model prog w) A (eval r env) (kBin2 prog w A E op Q a) E s'
noncomputable abbrev kUn (op : UnaryOp) (Q : Value → Shared → Prop) : Value → Shared → Prop := fun v s' => wpAny (model prog w) A (unaryOp op v) Q E s'
noncomputable abbrev kIfx (body orelse : Expr) (Q : Value → Shared → Prop) : Bool → Shared → Prop := fun b s' => (b = true → wpAny (model prog w) A (eval body env) Q E s') ∧ (b = false → wpAny (model prog w) A (eval orelse env) Q E s')
noncomputable abbrev kS2 (value slice : Expr) (o : Value) (Q : Value → Shared → Prop) : Value → Shared → Prop := fun i s' => wpAny (model prog w) A (subscriptTail value slice o i) Q E s'
noncomputable abbrev kS1 (value slice : Expr) (Q : Value → Shared → Prop) : Value → Shared → Prop := fun o s' => wpAny (model prog w) A (eval slice env) (kS2 prog w A E value slice o Q) E s'
noncomputable abbrev kTup (Q : Value → Shared → Prop) : List Value → Shared → Prop := fun l s' => wpAny (model prog w) A (newTuple l) Q E s'
noncomputable abbrev kLst (Q : Value → Shared → Prop) : List Value → Shared → Prop := fun l s' => wpAny (model prog w) A (newList l) Q E s'
noncomputable abbrev kSp2 (Q : List Value → Shared → Prop) (v : Value) : List Value → Shared → Prop := fun l s' => Q (v :: l) s'
noncomputable abbrev kSp1 (rest : List Expr) (pos : Pos) (Q : List Value → Shared → Prop) : Value → Shared → Prop := fun v s' => wpAny (model prog w) A (spliced (backTo pos (starEach rest env))) (kSp2 Q v) E s'
end

-- statements
theorem xs_nil {Q : Flow → Shared → Prop} (h : Q .next s) : wpAny (model prog w) A (execs [] env) Q E s := wpAny_execs_nil h
theorem xs_ret {e pos rest} {Q : Flow → Shared → Prop} (h : wpAny (model prog w) A (eval e env) (kRet Q) E s) : wpAny (model prog w) A (execs (.Return (some e) pos :: rest) env) Q E s :=
  wpAny_execs_cons (wpAny_Return_some h)
theorem xs_assign {x pos' value pos rest} {Q : Flow → Shared → Prop}
    (h : wpAny (model prog w) A (eval value env) (kSet prog w A E env x rest Q) E s)
    (hs : swapsWith value (some (.Name x pos')) pos.line env = pure false := by with_unfolding_all rfl) :
    wpAny (model prog w) A (execs (.Assign [.Name x pos'] value pos :: rest) env) Q E s := wpAny_execs_cons (wpAny_Assign_Name h hs)
theorem xs_sub {o i pos' value pos rest} {Q : Flow → Shared → Prop}
    (h : wpAny (model prog w) A (eval value env) (kSub1 prog w A E env o i rest Q) E s)
    (hs : swapsWith value (some (.Subscript o i pos')) pos.line env = pure false := by with_unfolding_all rfl) :
    wpAny (model prog w) A (execs (.Assign [.Subscript o i pos'] value pos :: rest) env) Q E s := wpAny_execs_cons (wpAny_Assign_Subscript h hs)
theorem xs_attr {o attr pos' value pos rest} {Q : Flow → Shared → Prop}
    (h : wpAny (model prog w) A (eval value env) (kAt1 prog w A E env o attr rest Q) E s)
    (hs : swapsWith value (some (.Attribute o attr pos')) pos.line env = pure false := by with_unfolding_all rfl) :
    wpAny (model prog w) A (execs (.Assign [.Attribute o attr pos'] value pos :: rest) env) Q E s := wpAny_execs_cons (plainObj_wpAny_Assign_Attribute h hs)
theorem xs_expr {e pos rest} {Q : Flow → Shared → Prop} (σ : S hb s0 mods g0 env ns vs led g s) (h : wpAny (model prog w) A (eval e env) (kRest prog w A E env rest Q) E s)
    (hs : swapsWith e none pos.line env = pure false := by with_unfolding_all rfl) :
    wpAny (model prog w) A (execs (.Expr e pos :: rest) env) Q E s := wpAny_execs_cons (wpAny_Expr_any h (by unfold interactive; rw [σ.eok.kind]; rfl) hs)
theorem xs_pass {pos rest} {Q : Flow → Shared → Prop} (h : wpAny (model prog w) A (execs rest env) Q E s) : wpAny (model prog w) A (execs (.Pass pos :: rest) env) Q E s := wpAny_execs_cons (wpAny_Pass h)
noncomputable def Seq (prog : Program) (w : World) (A : Around) (E : Value → Shared → Prop) (rest : List Stmt) (env : Env) (Q : Flow → Shared → Prop) (f : Flow) (s : Shared) : Prop :=
  match f with
  | .next => wpAny (model prog w) A (execs rest env) Q E s
  | f => Q f s
theorem seq_next {rest : List Stmt} {Q : Flow → Shared → Prop} (h : wpAny (model prog w) A (execs rest env) Q E s) : Seq prog w A E rest env Q .next s := h
theorem seq_ret {rest : List Stmt} {Q : Flow → Shared → Prop} {v : Value} (h : Q (.ret v) s) : Seq prog w A E rest env Q (.ret v) s := h
theorem seq_nil {Q : Flow → Shared → Prop} {f : Flow} (h : Q f s) : Seq prog w A E [] env Q f s := by
  cases f with
  | next => exact wpAny_execs_nil h
  | _ => exact h
theorem xs_stmt {st rest} {Q : Flow → Shared → Prop} (h : wpAny (model prog w) A (exec st env) (Seq prog w A E rest env Q) E s) : wpAny (model prog w) A (execs (st :: rest) env) Q E s :=
  wpAny_execs_cons (wpAny_mono h (fun f s' q => by cases f <;> exact q) fun _ _ q => q)
noncomputable abbrev kIf (prog : Program) (w : World) (A : Around) (E : Value → Shared → Prop) (env : Env) (body orelse : List Stmt) (Q : Flow → Shared → Prop) : Bool → Shared → Prop := fun b s' => (b = true → wpAny (model prog w) A (execs body env) Q E s') ∧ (b = false → wpAny (model prog w) A (execs orelse env) Q E s')
theorem xs_if {test body orelse pos rest} {Q : Flow → Shared → Prop}
    (h : wpAny (model prog w) A (isTrue test env (eval test env)) (kIf prog w A E env body orelse (Seq prog w A E rest env Q)) E s) :
    wpAny (model prog w) A (execs (.If test body orelse pos :: rest) env) Q E s :=
  xs_stmt (wpAny_If (wpAny_mono h (fun b s' q => by cases b; exact q.2 rfl; exact q.1 rfl) fun _ _ q => q))

-- tests
theorem t_cmp {l op r pos whole} {Q : Bool → Shared → Prop}
    (h : wpAny (model prog w) A (eval l env) (kCmp prog w A E env op r (kTr prog w A E Q)) E s)
    (hm : behindInMarks op r = false := by with_unfolding_all rfl) : wpAny (model prog w) A (isTrue (.Compare l [op] [r] pos) env whole) Q E s := wpAny_isTrue_Compare1 h hm
theorem t_not {x pos whole} {Q : Bool → Shared → Prop} (h : wpAny (model prog w) A (isTrue x env (eval x env)) (kNot Q) E s) :
    wpAny (model prog w) A (isTrue (.UnaryOp .Not x pos) env whole) Q E s := wpAny_isTrue_Not h
theorem t_bool {op values pos whole} {Q : Bool → Shared → Prop} (h : wpAny (model prog w) A (allTrue op values env) Q E s) : wpAny (model prog w) A (isTrue (.BoolOp op values pos) env whole) Q E s := wpAny_isTrue_BoolOp h
theorem t_and {x rest} {Q : Bool → Shared → Prop} (h : wpAny (model prog w) A (isTrue x env (eval x env)) (kAnd prog w A E env rest Q) E s) :
    wpAny (model prog w) A (allTrue .And (x :: rest) env) Q E s := wpAny_allTrue_And_cons (wpAny_mono h (fun b _ q => by cases b; exact q.2 rfl; exact q.1 rfl) fun _ _ q => q)
theorem t_or {x rest} {Q : Bool → Shared → Prop} (h : wpAny (model prog w) A (isTrue x env (eval x env)) (kOr prog w A E env rest Q) E s) :
    wpAny (model prog w) A (allTrue .Or (x :: rest) env) Q E s := wpAny_allTrue_Or_cons (wpAny_mono h (fun b _ q => by cases b; exact q.2 rfl; exact q.1 rfl) fun _ _ q => q)
theorem t_and_nil {Q : Bool → Shared → Prop} (h : Q true s) : wpAny (model prog w) A (allTrue .And [] env) Q E s := wpAny_allTrue_And_nil h
theorem t_or_nil {Q : Bool → Shared → Prop} (h : Q false s) : wpAny (model prog w) A (allTrue .Or [] env) Q E s := wpAny_pure h
theorem t_value {e : Expr} {whole : Sem Value} {Q : Bool → Shared → Prop} (h : wpAny (model prog w) A whole (kTr prog w A E Q) E s)
    (he : isTrue e env whole = (do let v ← whole; standAt e.pos; holding [v] (truthy v)) := by with_unfolding_all rfl) : wpAny (model prog w) A (isTrue e env whole) Q E s := wpAny_isTrue_value h he
theorem t_chain2 {l op₁ op₂ r₁ r₂ pos whole} {Q : Bool → Shared → Prop}
    (h : wpAny (model prog w) A (eval l env) (kCh1 prog w A E env op₁ op₂ r₁ r₂ Q) E s)
    (hm : lastMarks [op₁, op₂] [r₁, r₂] = false := by with_unfolding_all rfl) :
    wpAny (model prog w) A (isTrue (.Compare l [op₁, op₂] [r₁, r₂] pos) env whole) Q E s :=
  isTrue_chain (wpAny_mono h (fun a s₁ h₁ => test_link (wpAny_mono h₁ (fun b s₂ h₂ => wpAny_mono h₂ (fun c s₃ h₃ => wpAny_mono h₃ (fun t s₄ h₄ => by
    cases t with
    | true => exact test_last (h₄.1 rfl)
    | false => exact h₄.2 rfl) fun _ _ q => q) fun _ _ q => q) fun _ _ q => q)) fun _ _ q => q) hm
theorem tr_bool {b : Bool} {Q : Bool → Shared → Prop} (h : Q b s) : wpAny (model prog w) A (truthy (.bool b)) Q E s := wpAny_truthy_bool h

-- expressions
theorem e_int (σ : S hb s0 mods g0 env ns vs led g s) {i k pos} {Q : Value → Shared → Prop} (h : ∀ t s', S hb s0 mods g0 env ns vs led g s' → Q (.int i t) s') : wpAny (model prog w) A (eval (.Constant (.int i) k pos) env) Q E s :=
  wpAny_Constant_int (h _ _ σ.toks)
theorem e_str (σ : S hb s0 mods g0 env ns vs led g s) {x k pos} {Q : Value → Shared → Prop} (h : ∀ t s', S hb s0 mods g0 env ns vs led g s' → Q (.str x t) s') : wpAny (model prog w) A (eval (.Constant (.str x) k pos) env) Q E s :=
  Constant_str (h _ _ σ.toks)
theorem e_none {k pos} {Q : Value → Shared → Prop} (h : Q .none s) : wpAny (model prog w) A (eval (.Constant .none k pos) env) Q E s := wpAny_Constant_none h
theorem e_bool {b k pos} {Q : Value → Shared → Prop} (h : Q (.bool b) s) : wpAny (model prog w) A (eval (.Constant (.bool b) k pos) env) Q E s := wpAny_Constant_bool h
theorem e_bin {l op r pos} {Q : Value → Shared → Prop}
    (h : wpAny (model prog w) A (eval l env) (kBin prog w A E env op r Q) E s) : wpAny (model prog w) A (eval (.BinOp l op r pos) env) Q E s := wpAny_BinOp h
theorem e_un {op x pos} {Q : Value → Shared → Prop} (h : wpAny (model prog w) A (eval x env) (kUn prog w A E op Q) E s) :
    wpAny (model prog w) A (eval (.UnaryOp op x pos) env) Q E s := wpAny_UnaryOp h
theorem e_cmp {l op r pos} {Q : Value → Shared → Prop}
    (h : wpAny (model prog w) A (eval l env) (kCmp prog w A E env op r Q) E s)
    (hm : behindInMarks op r = false := by with_unfolding_all rfl) : wpAny (model prog w) A (eval (.Compare l [op] [r] pos) env) Q E s := wpAny_Compare1 h hm
theorem e_ifx {test body orelse pos} {Q : Value → Shared → Prop}
    (h : wpAny (model prog w) A (isTrue test env (eval test env)) (kIfx prog w A E env body orelse Q) E s) :
    wpAny (model prog w) A (eval (.IfExp test body orelse pos) env) Q E s := wpAny_IfExp (wpAny_mono h (fun b _ q => by cases b; exact q.2 rfl; exact q.1 rfl) fun _ _ q => q)
theorem e_sub {value slice pos} {Q : Value → Shared → Prop}
    (h : wpAny (model prog w) A (eval value env) (kS1 prog w A E env value slice Q) E s) :
    wpAny (model prog w) A (eval (.Subscript value slice pos) env) Q E s := Subscript_ h

theorem tup_new (σ : S hb s0 mods g0 env ns vs led g s) {l : List Value} {Q : Value → Shared → Prop} (hsz : l.length ≤ sizeLine)
    (h : ∀ a g' s', S hb s0 mods g0 env ns vs led g' s' → GLe g g' → TG g' a l → Q (.ref a) s') : wpAny (model prog w) A (newTuple l) Q E s :=
  wpAny_newTuple (by
    have q := σ.ice (a := s.heap.objs.size) (get_size _) (Ext.push (t := s.toks) (o := { cls := .type "tuple", data := .seq l.toArray })) (Heap.get?_push_size _ rfl)
    exact h _ _ _ q.1 q.2 ⟨_, FH.put_self, _, rfl⟩) hsz
theorem list_new (σ : S hb s0 mods g0 env ns vs led g s) {l : List Value} {Q : Value → Shared → Prop} (hsz : l.length ≤ sizeLine)
    (h : ∀ a s', S hb s0 mods g0 env ns vs ((a, IsL l) :: led) g s' → s0.heap.get? a = none → Q (.ref a) s') : wpAny (model prog w) A (newList l) Q E s :=
  wpAny_newList (by
    have q := σ.alloc (a := s.heap.objs.size) (P := IsL l) (get_size _) (Ext.push (t := s.toks) (o := { cls := .type "list", data := .seq l.toArray })) (Heap.get?_push_size _ rfl) ⟨_, rfl⟩
    exact h _ _ q (σ.ext.live (get_size _))) hsz
theorem e_tuple {elts k pos} {Q : Value → Shared → Prop} (h : wpAny (model prog w) A (spliced (backTo pos (starEach elts env))) (kTup prog w A E Q) E s) :
    wpAny (model prog w) A (eval (.Tuple elts k pos) env) Q E s := Tuple_ h
theorem e_list {elts pos} {Q : Value → Shared → Prop} (h : wpAny (model prog w) A (spliced (backTo pos (starEach elts env))) (kLst prog w A E Q) E s) :
    wpAny (model prog w) A (eval (.List elts pos) env) Q E s := List_ h
theorem sp_nil {pos} {Q : List Value → Shared → Prop} (h : Q [] s) : wpAny (model prog w) A (spliced (backTo pos (starEach [] env))) Q E s := spliced_nil h
theorem sp_cons {e rest pos} {Q : List Value → Shared → Prop} (h : wpAny (model prog w) A (eval e env) (kSp1 prog w A E env rest pos Q) E s)
    (he : starEach (e :: rest) env = (false, eval e env) :: starEach rest env := by with_unfolding_all rfl) : wpAny (model prog w) A (spliced (backTo pos (starEach (e :: rest) env))) Q E s := by
  rw [he]; exact spliced_cons h

-- ints
theorem i_add (σ : S hb s0 mods g0 env ns vs led g s) {i j a b} {Q : Value → Shared → Prop} (h : ∀ t s', S hb s0 mods g0 env ns vs led g s' → Q (.int (i + j) t) s') : wpAny (model prog w) A (binaryOp .Add (.int i a) (.int j b)) Q E s :=
  add_int (h _ _ σ.toks)
theorem i_sub (σ : S hb s0 mods g0 env ns vs led g s) {i j a b} {Q : Value → Shared → Prop} (h : ∀ t s', S hb s0 mods g0 env ns vs led g s' → Q (.int (i - j) t) s') : wpAny (model prog w) A (binaryOp .Sub (.int i a) (.int j b)) Q E s :=
  sub_int (h _ _ σ.toks)
theorem i_mod (σ : S hb s0 mods g0 env ns vs led g s) {i j a b} {Q : Value → Shared → Prop} (hj : j ≠ 0) (h : ∀ t s', S hb s0 mods g0 env ns vs led g s' → Q (.int (i.fmod j) t) s') : wpAny (model prog w) A (binaryOp .Mod (.int i a) (.int j b)) Q E s :=
  mod_int hj (h _ _ σ.toks)
theorem c_eq {i j a b} {Q : Value → Shared → Prop} (h : Q (.bool (decide (i = j))) s) : wpAny (model prog w) A (compareOp .Eq (.int i a) (.int j b)) Q E s := eq_int h
theorem c_lt {i j a b} {Q : Value → Shared → Prop} (h : Q (.bool (decide (i < j))) s) : wpAny (model prog w) A (compareOp .Lt (.int i a) (.int j b)) Q E s := lt_int h
theorem c_gt {i j a b} {Q : Value → Shared → Prop} (h : Q (.bool (decide (j < i))) s) : wpAny (model prog w) A (compareOp .Gt (.int i a) (.int j b)) Q E s := gt_int h
end
section
variable {prog : Program} {w : World} {A : Around} {E : Value → Shared → Prop}
variable {hb : Heap} {s0 : Shared} {mods : List Addr} {g0 : FH} {env : Env} {ns : List Str} {vs : List (Option Value)} {led : Led} {g : FH} {s s' : Shared}

noncomputable abbrev kCall (prog : Program) (w : World) (A : Around) (E : Value → Shared → Prop) (hb : Heap) (f : Addr) (Q : Value → Shared → Prop) : List Value → Shared → Prop := fun vs s₁ => (∀ a o, hb.get? a = some o → s₁.heap.get? a = some o) ∧ wpAny (model prog w) A (call (.ref f) vs) Q E s₁
theorem e_call (σ : S hb s0 mods g0 env ns vs led g s) {gs : List Str} (hG : EnvG env gs) {x : Str} {np pos : Pos} {f : Addr} {fd : FuncData} {e : Expr} {rest : List Expr} {Q : Value → Shared → Prop}
    (gv : GV hb x (.ref f)) (fn : FN hb f fd) (hm : x ∈ gs)
    (h : wpAny (model prog w) A (spliced (backTo pos (starEach (e :: rest) env))) (kCall prog w A E hb f Q) E s)
    (he : starEach (e :: rest) env = (false, eval e env) :: starEach rest env := by with_unfolding_all rfl) :
    wpAny (model prog w) A (eval (.Call (.Name x np) (e :: rest) [] pos) env) Q E s := by
  refine wpAny_Call_NameR (w_global σ hG gv hm ?_)
  obtain ⟨o, ho, hdat⟩ := fn.fn
  exact callWith_def hdat (wpAny_mono h (fun vs s₁ q => ⟨q.1 _ _ ho, q.2⟩) fun _ _ q => q) he

theorem room_depth {k : Nat} (h : Room k A) : A.depth < recursionLimit := Nat.lt_of_le_of_lt (Nat.le_add_right _ _) h.2.1
theorem room_units {k : Nat} (h : Room k A) : A.units < cLine := Nat.lt_of_le_of_lt (Nat.le_trans (Nat.le_add_right _ _) (Nat.le_add_right _ _)) h.2.2
theorem c_ne_lists {l b : Addr} {xs ys : List Value} {e : Nat → Bool} {Q : Value → Shared → Prop} (hl : HL s l xs) (hb : HL s b ys) (hu : A.units < cLine)
    (he : xs.length = ys.length → ∀ j (h1 : j < xs.length) (h2 : j < ys.length), EqAt A.in1 s xs[j] ys[j] (e j))
    (h : Q (.bool (!(decide (xs.length = ys.length) && (List.range xs.length).all e))) s) : wpAny (model prog w) A (compareOp .NotEq (.ref l) (.ref b)) Q E s := by
  by_cases hn : xs.length = ys.length
  · refine RcNeAt.lists (e := e) hl.isList hb.isList (by simpa using hn) hu (fun j h1 h2 => he hn j (by simpa using h1) (by simpa using h2)) prog w E Q ?_
    simpa [hn] using h
  · refine RcNeAt.lists_lengths hl.isList hb.isList (by simpa using hn) hu prog w E Q ?_
    simpa [hn] using h
theorem c_eq_lists {l b : Addr} {xs ys : List Value} {e : Nat → Bool} {Q : Value → Shared → Prop} (hl : HL s l xs) (hb : HL s b ys) (hu : A.units < cLine)
    (he : xs.length = ys.length → ∀ j (h1 : j < xs.length) (h2 : j < ys.length), EqAt A.in1 s xs[j] ys[j] (e j))
    (h : Q (.bool (decide (xs.length = ys.length) && (List.range xs.length).all e)) s) : wpAny (model prog w) A (compareOp .Eq (.ref l) (.ref b)) Q E s := by
  by_cases hn : xs.length = ys.length
  · refine RcAt.lists (e := e) hl.isList hb.isList (by simpa using hn) hu (fun j h1 h2 => he hn j (by simpa using h1) (by simpa using h2)) prog w E Q ?_
    simpa [hn] using h
  · refine RcAt.lists_lengths hl.isList hb.isList (by simpa using hn) hu prog w E Q ?_
    simpa [hn] using h
theorem c_ne_nil {l b : Addr} {xs : List Value} {Q : Value → Shared → Prop} (hl : HL s l xs) (hb : HL s b []) (hu : A.units < cLine) (h : Q (.bool (!xs.isEmpty)) s) :
    wpAny (model prog w) A (compareOp .NotEq (.ref l) (.ref b)) Q E s := by
  refine c_ne_lists (e := fun _ => true) hl hb hu (fun hn j h1 h2 => absurd h2 (Nat.not_lt_zero _)) ?_
  cases xs with
  | nil => exact h
  | cons x r => exact h
theorem HL.there {a : Addr} {l : List Value} (h : HL s a l) : s.TypeIs (.ref a) "list" ∧ (∀ b, Value.ref a = .ref b → ∃ ob, s.heap.get? b = some ob ∧ ob.dict = none) := by
  obtain ⟨o, e, n, rfl⟩ := h
  exact ⟨⟨_, e, rfl⟩, fun b q => by cases q; exact ⟨_, e, rfl⟩⟩

theorem m_list1 {o x : Expr} {name : Str} {id : String} {apos pos : Pos} {Q : Value → Shared → Prop} (slot : Slot "list" name id) (hty : typeOf (.builtin id) = pure (.type "method_descriptor"))
    (h : wpAny (model prog w) A (eval o env) (fun ov s₁ => ∃ a l, ov = .ref a ∧ HL s₁ a l ∧ wpAny (model prog w) A (callWith pos (.builtin id) [.ref a] [(false, eval x env)] []) Q E s₁) E s)
    (hbase : attributeBase o name env (eval o env) = eval o env := by with_unfolding_all rfl) (hline : (apos.endLine == pos.line) = true := by with_unfolding_all rfl)
    (hx : backTo pos (starEach [x] env) = [(false, eval x env)] := by with_unfolding_all rfl) :
    wpAny (model prog w) A (eval (.Call (.Attribute o name apos) [x] [] pos) env) Q E s := by
  refine wpAny_Call_method (T := "list") (id := id) hbase (by rw [hx]; rfl) hline PySem.F.plainAttrs_list slot hty (wpAny_mono h (fun ov s₁ q => ?_) fun _ _ q => q)
  obtain ⟨a, l, rfl, hl, q⟩ := q
  rw [hx]
  exact ⟨hl.there.1, hl.there.2, q⟩
theorem m_list0 {o : Expr} {name : Str} {id : String} {apos pos : Pos} {Q : Value → Shared → Prop} (slot : Slot "list" name id) (hty : typeOf (.builtin id) = pure (.type "method_descriptor"))
    (h : wpAny (model prog w) A (eval o env) (fun ov s₁ => ∃ a l, ov = .ref a ∧ HL s₁ a l ∧ wpAny (model prog w) A (callWith pos (.builtin id) [.ref a] [] []) Q E s₁) E s)
    (hbase : attributeBase o name env (eval o env) = eval o env := by with_unfolding_all rfl) (hline : (apos.endLine == pos.line) = true := by with_unfolding_all rfl) :
    wpAny (model prog w) A (eval (.Call (.Attribute o name apos) [] [] pos) env) Q E s := by
  refine wpAny_Call_method (T := "list") (id := id) hbase rfl hline PySem.F.plainAttrs_list slot hty (wpAny_mono h (fun ov s₁ q => ?_) fun _ _ q => q)
  obtain ⟨a, l, rfl, hl, q⟩ := q
  exact ⟨hl.there.1, hl.there.2, q⟩

theorem HL.upd {a : Addr} {l l' : List Value} {f : Array Value → Array Value} {t : Tok} (h : HL s a l) (hf : f l.toArray = l'.toArray) :
    Ext [a] s { s with heap := s.heap.update a (Obj.mapSeq f), toks := t } ∧ HL { s with heap := s.heap.update a (Obj.mapSeq f), toks := t } a l' := by
  obtain ⟨o, e, n, rfl⟩ := h
  have y := Heap.get?_update_self (f := Obj.mapSeq f) e rfl
  refine ⟨.same (Heap.SameBut.update ..) (by rw [y]; exact Option.some_ne_none _), ⟨_, y, if (f l.toArray).size == l.toArray.size then n else n + 1, ?_⟩⟩
  rw [← hf]; rfl

theorem S.modL (σ : S hb s0 mods g0 env ns vs led g s) {a : Addr} {l l' : List Value} {led' : Led} (u : Upd led a (IsL l) (IsL l') led') (x : Ext [a] s s') (h : Mine.HL s' a l') : S hb s0 mods g0 env ns vs led' g s' :=
  let ⟨_, e, i⟩ := h; σ.mod u x e i

noncomputable abbrev kApp2 (Q : Value → Shared → Prop) (a : Addr) : Value → Shared → Prop := fun v s₂ => ∃ l₂, HL s₂ a l₂ ∧ l₂.length ≤ sizeLine ∧
      ∀ s₃, Ext [a] s₂ s₃ → HL s₃ a (l₂ ++ [v]) → Q .none s₃
noncomputable abbrev kApp1 (prog : Program) (w : World) (A : Around) (E : Value → Shared → Prop) (env : Env) (x : Expr) (Q : Value → Shared → Prop) : Value → Shared → Prop := fun ov s₁ => ∃ a l, ov = .ref a ∧ HL s₁ a l ∧ wpAny (model prog w) A (eval x env) (kApp2 Q a) E s₁
noncomputable abbrev kPop2 (Q : Value → Shared → Prop) (a : Addr) : Value → Shared → Prop := fun v s₂ => ∃ t y l₂, v = .int 0 t ∧ HL s₂ a (y :: l₂) ∧ l₂.length < sizeLine ∧
      ∀ s₃, Ext [a] s₂ s₃ → HL s₃ a l₂ → Q y s₃
noncomputable abbrev kPop1 (prog : Program) (w : World) (A : Around) (E : Value → Shared → Prop) (env : Env) (x : Expr) (Q : Value → Shared → Prop) : Value → Shared → Prop := fun ov s₁ => ∃ a l, ov = .ref a ∧ HL s₁ a l ∧ wpAny (model prog w) A (eval x env) (kPop2 Q a) E s₁
noncomputable abbrev kPop (Q : Value → Shared → Prop) : Value → Shared → Prop := fun ov s₁ => ∃ a l y, ov = .ref a ∧ HL s₁ a (l ++ [y]) ∧ l.length < sizeLine ∧
      ∀ s₃, Ext [a] s₁ s₃ → HL s₃ a l → Q y s₃
theorem m_append {o x : Expr} {apos pos : Pos} {Q : Value → Shared → Prop}
    (h : wpAny (model prog w) A (eval o env) (kApp1 prog w A E env x Q) E s)
    (hbase : attributeBase o "append" env (eval o env) = eval o env := by with_unfolding_all rfl) (hline : (apos.endLine == pos.line) = true := by with_unfolding_all rfl)
    (hx : backTo pos (starEach [x] env) = [(false, eval x env)] := by with_unfolding_all rfl) :
    wpAny (model prog w) A (eval (.Call (.Attribute o "append" apos) [x] [] pos) env) Q E s :=
  m_list1 PySem.F.slot_list_append PySem.F.type_list_append (wpAny_mono h (fun ov s₁ q => by
    obtain ⟨a, l, e, hl, q⟩ := q
    refine ⟨a, l, e, hl, P.append_list (wpAny_mono q (fun v s₂ q => ?_) fun _ _ q => q)⟩
    obtain ⟨l₂, hl₂, hsz, k⟩ := q
    obtain ⟨n, e⟩ := hl₂.plain
    have u := hl₂.upd (l' := l₂ ++ [v]) (f := fun xs => xs.push v) (t := s₂.toks) (by simp)
    exact ⟨_, n, by simpa using hsz, e, k _ u.1 u.2⟩) fun _ _ q => q) hbase hline hx

theorem m_pop0 {o x : Expr} {apos pos : Pos} {Q : Value → Shared → Prop}
    (h : wpAny (model prog w) A (eval o env) (kPop1 prog w A E env x Q) E s)
    (hbase : attributeBase o "pop" env (eval o env) = eval o env := by with_unfolding_all rfl) (hline : (apos.endLine == pos.line) = true := by with_unfolding_all rfl)
    (hx : backTo pos (starEach [x] env) = [(false, eval x env)] := by with_unfolding_all rfl) :
    wpAny (model prog w) A (eval (.Call (.Attribute o "pop" apos) [x] [] pos) env) Q E s :=
  m_list1 PySem.F.slot_list_pop PySem.F.type_list_pop (wpAny_mono h (fun ov s₁ q => by
    obtain ⟨a, l, e, hl, q⟩ := q
    refine ⟨a, l, e, hl, P.pop_at_list (wpAny_mono q (fun v s₂ q => ?_) fun _ _ q => q)⟩
    obtain ⟨t, y, l₂, rfl, hl₂, hsz, k⟩ := q
    obtain ⟨n, e⟩ := hl₂.plain
    have u := hl₂.upd (l' := l₂) (f := fun xs => xs.eraseIdxIfInBounds 0) (t := s₂.toks) (by simp [Array.eraseIdxIfInBounds])
    refine ⟨_, n, 0, t, 0, y, by simp only [List.size_toArray, List.length_cons]; exact hsz, rfl, e, rfl, ?_, rfl, k _ u.1 u.2⟩
    simp [seqIndex?]) fun _ _ q => q) hbase hline hx

theorem erase_last {α : Type} (l : List α) (y : α) : (l ++ [y]).eraseIdx l.length = l := by
  induction l with
  | nil => rfl
  | cons x r ih => simp [ih]
theorem m_pop {o : Expr} {apos pos : Pos} {Q : Value → Shared → Prop}
    (h : wpAny (model prog w) A (eval o env) (kPop Q) E s)
    (hbase : attributeBase o "pop" env (eval o env) = eval o env := by with_unfolding_all rfl) (hline : (apos.endLine == pos.line) = true := by with_unfolding_all rfl) :
    wpAny (model prog w) A (eval (.Call (.Attribute o "pop" apos) [] [] pos) env) Q E s :=
  m_list0 PySem.F.slot_list_pop PySem.F.type_list_pop (wpAny_mono h (fun ov s₁ q => by
    obtain ⟨a, l, y, e, hl, hsz, k⟩ := q
    obtain ⟨n, e'⟩ := hl.plain
    have u := hl.upd (l' := l) (f := fun xs => xs.eraseIdxIfInBounds ((l ++ [y]).toArray.size - 1)) (t := s₁.toks) (by
      simp [Array.eraseIdxIfInBounds, erase_last])
    refine ⟨a, _, e, hl, P.pop_list e' (y := y) (by simp) (k _ u.1 u.2) (by simp only [List.size_toArray, List.length_append, List.length_cons, List.length_nil]; exact hsz)⟩) fun _ _ q => q) hbase hline
end
noncomputable def fdOf (st : Stmt) (qual : Str) (dV pm cd : Value) : FuncData := match st with
  | .FunctionDef name args body _ _ _ scope _ _ _ => fnOf name qual args body scope dV .none .none pm none cd .none
  | _ => default
noncomputable def topDef (n : Str) : Stmt := (PySem.Challenge.pw_nm0135_01.main.body.find? fun st => match st with | .FunctionDef m .. => m == n | _ => false).getD (.Pass default)
noncomputable def clsBody (n : Str) : List Stmt := (PySem.Challenge.pw_nm0135_01.main.body.findSome? fun st => match st with | .ClassDef m _ _ b _ _ _ _ _ _ _ => if m == n then some b else none | _ => none).getD []
noncomputable def methDef (c n : Str) : Stmt := ((clsBody c).find? fun st => match st with | .FunctionDef m .. => m == n | _ => false).getD (.Pass default)
noncomputable def bodyOf (fd : FuncData) : List Stmt := match fd.body with | .stmts b => b | _ => []

noncomputable def fd_wpieces_of : FuncData := fdOf (topDef "pieces_of") "pieces_of" .none (.str (Str.ofString "wasmcore.pieces") 405) (.ref 219)
noncomputable def fd_wput : FuncData := fdOf (topDef "put_pieces") "put_pieces" .none (.str (Str.ofString "wasmcore.pieces") 405) (.ref 226)
noncomputable def fd_wbody : FuncData := fdOf (topDef "body_of") "body_of" .none (.str (Str.ofString "wasmcore.pieces") 405) (.ref 233)
noncomputable def fd_wlast : FuncData := fdOf (topDef "join_last") "join_last" .none (.str (Str.ofString "wasmcore.passes") 489) (.ref 240)
noncomputable def fd_wjoin : FuncData := fdOf (topDef "join_locals") "join_locals" .none (.str (Str.ofString "wasmcore.passes") 489) (.ref 247)
noncomputable def fd_wwithout : FuncData := fdOf (topDef "without_locals") "without_locals" .none (.str (Str.ofString "wasmcore.passes") 489) (.ref 254)
noncomputable def fd_wnext : FuncData := fdOf (topDef "_law_next") "_law_next" .none (.str (Str.ofString "law_nm0135_01") 525) (.ref 261)
noncomputable def fd_wpick : FuncData := fdOf (topDef "_law_pick") "_law_pick" .none (.str (Str.ofString "law_nm0135_01") 525) (.ref 268)
noncomputable def fd_witems : FuncData := fdOf (topDef "_law_items") "_law_items" .none (.str (Str.ofString "law_nm0135_01") 525) (.ref 275)
noncomputable def fd_wflat : FuncData := fdOf (topDef "_law_flat") "_law_flat" .none (.str (Str.ofString "law_nm0135_01") 525) (.ref 282)
noncomputable def fd_wtwo : FuncData := fdOf (topDef "_law_two") "_law_two" .none (.str (Str.ofString "law_nm0135_01") 525) (.ref 287)
noncomputable def fd_wjoined : FuncData := fdOf (topDef "_law_joined") "_law_joined" .none (.str (Str.ofString "law_nm0135_01") 525) (.ref 294)
noncomputable def fd_wkept : FuncData := fdOf (topDef "_law_kept") "_law_kept" .none (.str (Str.ofString "law_nm0135_01") 525) (.ref 299)
noncomputable def fd_wbehind : FuncData := fdOf (topDef "_law_behind") "_law_behind" .none (.str (Str.ofString "law_nm0135_01") 525) (.ref 306)
noncomputable def fd_wrun : FuncData := fdOf (topDef "_law_run") "_law_run" .none (.str (Str.ofString "law_nm0135_01") 525) (.ref 313)
noncomputable def fd_wjn : FuncData := fdOf (topDef "_law_join") "_law_join" .none (.str (Str.ofString "law_nm0135_01") 525) (.ref 320)
noncomputable def fd_wright : FuncData := fdOf (topDef "_law_is_kept_right") "_law_is_kept_right" .none (.str (Str.ofString "law_nm0135_01") 525) (.ref 327)
noncomputable def fd_wlaw : FuncData := fdOf (topDef "law") "law" .none (.str (Str.ofString "law_nm0135_01") 525) (.ref 332)
noncomputable def fd_finit : FuncData := fdOf (methDef "Func" "__init__") "Func.__init__" .none (.str (Str.ofString "wasmcore.modules") 214) (.ref 34)
noncomputable def fd_fplain : FuncData := fdOf (methDef "Func" "plain") "Func.plain" .none (.str (Str.ofString "wasmcore.modules") 214) (.ref 41)
noncomputable def fd_minit : FuncData := fdOf (methDef "Module" "__init__") "Module.__init__" .none (.str (Str.ofString "wasmcore.modules") 214) (.ref 62)
noncomputable def fd_pinit : FuncData := fdOf (methDef "Piece" "__init__") "Piece.__init__" (.ref 179) (.str (Str.ofString "wasmcore.pieces") 405) (.ref 185)
noncomputable def fd_pcode : FuncData := fdOf (methDef "Piece" "code") "Piece.code" .none (.str (Str.ofString "wasmcore.pieces") 405) (.ref 192)
noncomputable def fd_pparts : FuncData := fdOf (methDef "Piece" "parts") "Piece.parts" .none (.str (Str.ofString "wasmcore.pieces") 405) (.ref 198)

structure Wld (hb : Heap) : Prop where
  fn_wpieces_of : FN hb 220 fd_wpieces_of
  fn_wput : FN hb 227 fd_wput
  fn_wbody : FN hb 234 fd_wbody
  fn_wlast : FN hb 241 fd_wlast
  fn_wjoin : FN hb 248 fd_wjoin
  fn_wwithout : FN hb 255 fd_wwithout
  fn_wnext : FN hb 262 fd_wnext
  fn_wpick : FN hb 269 fd_wpick
  fn_witems : FN hb 276 fd_witems
  fn_wflat : FN hb 283 fd_wflat
  fn_wtwo : FN hb 288 fd_wtwo
  fn_wjoined : FN hb 295 fd_wjoined
  fn_wkept : FN hb 300 fd_wkept
  fn_wbehind : FN hb 307 fd_wbehind
  fn_wrun : FN hb 314 fd_wrun
  fn_wjn : FN hb 321 fd_wjn
  fn_wright : FN hb 328 fd_wright
  fn_wlaw : FN hb 333 fd_wlaw
  fn_finit : FN hb 35 fd_finit
  fn_fplain : FN hb 42 fd_fplain
  fn_minit : FN hb 63 fd_minit
  fn_pinit : FN hb 186 fd_pinit
  fn_pcode : FN hb 193 fd_pcode
  fn_pparts : FN hb 199 fd_pparts
  gv_wpieces_of : GV hb n_pieces_of (.ref 220)
  gv_wput : GV hb n_put_pieces (.ref 227)
  gv_wbody : GV hb n_body_of (.ref 234)
  gv_wlast : GV hb n_join_last (.ref 241)
  gv_wjoin : GV hb n_join_locals (.ref 248)
  gv_wwithout : GV hb n_without_locals (.ref 255)
  gv_wnext : GV hb n_law_next (.ref 262)
  gv_wpick : GV hb n_law_pick (.ref 269)
  gv_witems : GV hb n_law_items (.ref 276)
  gv_wflat : GV hb n_law_flat (.ref 283)
  gv_wtwo : GV hb n_law_two (.ref 288)
  gv_wjoined : GV hb n_law_joined (.ref 295)
  gv_wkept : GV hb n_law_kept (.ref 300)
  gv_wbehind : GV hb n_law_behind (.ref 307)
  gv_wrun : GV hb n_law_run (.ref 314)
  gv_wjn : GV hb n_law_join (.ref 321)
  gv_wright : GV hb n_law_is_kept_right (.ref 328)
  gv_BLOCK : GV hb n_BLOCK (.int 2 194)
  gv_LOOP : GV hb n_LOOP (.int 3 196)
  gv_IF : GV hb n_IF (.int 4 198)
  gv_ELSE : GV hb n_ELSE (.int 5 200)
  gv_END : GV hb n_END (.int 11 202)
  gv_DROP : GV hb n_DROP (.int 26 204)
  gv_LOCAL_GET : GV hb n_LOCAL_GET (.int 32 206)
  gv_LOCAL_SET : GV hb n_LOCAL_SET (.int 33 208)
  gv_LOCAL_TEE : GV hb n_LOCAL_TEE (.int 34 210)
  gv_Func : GV hb n_Func (.ref 45)
  gv_Module : GV hb n_Module (.ref 162)
  gv_Piece : GV hb n_Piece (.ref 209)
  bv_len : BV hb n_len (.builtin "len")
  bv_list : BV hb n_list (.type "list")
  bv_tuple : BV hb n_tuple (.type "tuple")
  bv_range : BV hb n_range (.type "range")
  bv_int : BV hb n_int (.type "int")
  bv_sum : BV hb n_sum (.builtin "sum")

noncomputable def retv : Flow → Value
  | .ret v => v
  | _ => .none
noncomputable def Frz (hb : Heap) (g : FH) (s : Shared) : Prop := (∀ a o, hb.get? a = some o → g a = some o) ∧ ∀ a o, g a = some o → s.heap.get? a = some o

section
variable {prog : Program} {w : World} {A : Around} {hb : Heap} {g : FH} {s : Shared}
theorem start {R : Result → Shared → Prop} {f : Addr} {fd : FuncData} {args : List Value} {led : Led} (mods : List Addr) (binds : List (Str × Value)) (others gs : List Str) {ns : List Str} {vs : List (Option Value)}
    (fn : FN hb f fd) (room : A.depth < recursionLimit) (hz : Frz hb g s) (hbind : BindsTo s fd ⟨args, []⟩ binds)
    (hns : binds.map (·.1) ++ others = ns) (hvs : binds.map (fun p => some p.2) ++ others.map (fun _ => none) = vs)
    (hchk : (fd.scope.names.all (fun x => x.2 != .cell) && ns.all (fun x => fd.scope.names.lookup x == some .local) && gs.all (fun x => fd.scope.names.lookup x == some .globalImplicit) &&
      !fd.scope.isCoroutine && !fd.scope.isGenerator && fd.scope.kind == .function && decide ns.Nodup && (ns ++ gs).all (fun x => !(x == ("__debug__" : Str)))) = true)
    (hled : ∀ p ∈ led, ∃ o, s.heap.get? p.1 = some o ∧ p.2 o) (hnod : (led.map (·.1)).Nodup) (hout : ∀ p ∈ led, g p.1 = none ∧ p.1 ∈ mods)
    (h : ∀ env E s', EnvG env gs → S hb s mods g env ns vs led g s' →
      wpAny (model prog w) (A.deeper env) (execs (bodyOf fd) env) (fun fl s' => R (.ok (.ret (retv fl))) s') E s')
    (hbody : fd.body = .stmts (bodyOf fd) := by rfl) (hgl : fd.globals = mainGlobals := by rfl) (hbu : fd.builtins = builtinsNs := by rfl) :
    codeAny (model prog w) A (.call (.ref f) ⟨args, []⟩) R s := by
  subst hns hvs
  simp only [Bool.and_eq_true, List.all_eq_true, beq_iff_eq, bne_iff_ne, Bool.not_eq_true', decide_eq_true_eq] at hchk
  obtain ⟨⟨⟨⟨⟨⟨⟨h1, h2⟩, h3⟩, h4⟩, h5⟩, h6⟩, h7⟩, h8⟩ := hchk
  refine enter others fn room hbody hbind h1 h2 h7 (fun x hx => h8 x (List.mem_append_left _ hx)) hgl hbu hz.1 hz.2 hled hnod hout (fun env E s' hsc _ _ σ => ?_) h4 h5 h6
  exact h env E s' (fun x hx => ⟨by rw [Env.kindOf, hsc]; exact h3 x hx, h8 x (List.mem_append_right _ hx)⟩) σ
end
noncomputable def fr (st : Stmt) (qual : Str) : Obj := { cls := .none, data := .func { fdOf st qual .none .none .none with globals := 0 } }
noncomputable def fo (st : Stmt) (qual : Str) (dV : Value) (m : Str) (t c : Nat) : Obj := { cls := .type "function", data := .func (fdOf st qual dV (.str m t) (.ref c)) }
noncomputable def en (P : Params) (x : Str) (t : Nat) (v : Value) : DictEntry := { hash := PyData.keyHash P x, key := .str x t, val := v }
noncomputable def co (l : List Value) : Obj := { cls := .type "code", data := .fields l.toArray }
noncomputable def tu (l : List Value) : Obj := { cls := .type "tuple", data := .seq l.toArray }
noncomputable def di (l : List DictEntry) (n : Nat) : Obj := { cls := .type "dict", data := .dict l.toArray n }
noncomputable def hs0 (P : Params) : List Obj := [co [.str "<module>" 182, .str "<module>" 183, .str "/claim/cut.py" 184, .int 1 0, .int 0 0, .int 0 0, .int 0 0, .int 0 0, .ref 11, .bool false, .int 181 0, .ref 12, .none, .none, .none, .none, .int 185 0, .int 1 0, .str "/claim/cut.py" 186], { cls := .type "frame", slots := #[some (.ref 13), some (.ref 3), some (.ref 3), none, some (.str "__main__" 164), none, some (.ref 0)] }]
noncomputable def hs1 (P : Params) : List Obj := [tu [], { cls := .none, data := .fields #[] }, tu [.str "k" 190], tu [], fr (topDef "_wall") "_wall", co [.str "_wall" 187, .str "_wall" 188, .str "/claim/cut.py" 189, .int 1 0, .int 1 0, .int 0 0, .int 0 0, .int 3 0, .ref 15, .bool true, .int 181 0, .ref 16, .none, .ref 17, .ref 18, .ref 19, .int 191 0, .int 1 0, .str "/claim/cut.py" 192], fo (topDef "_wall") "_wall" .none "__main__" 164 20, tu [], { cls := .type "builtin_function_or_method", data := .fields #[.builtin "type.__prepare__", .type "type"] }, di [en P "__module__" 223 (.str "wasmcore.modules" 214), en P "__qualname__" 225 (.str "Func" 224), en P "__firstlineno__" 227 (.int 15 226), en P "__init__" 237 (.ref 35), en P "plain" 244 (.ref 42), en P "__static_attributes__" 248 (.ref 43)] 6, tu [], { cls := .none, data := .fields #[.int 17 0, .int 4 0, .ref 34, .int 22 0, .int 4 0, .ref 41] }, co [.str "Func" 218, .str "Func" 219, .str "/claim/cut.py" 220, .int 15 0, .int 0 0, .int 0 0, .int 0 0, .int 0 0, .ref 25, .bool false, .int 181 0, .ref 26, .none, .none, .none, .none, .int 221 0, .int 15 0, .str "/claim/cut.py" 222], { cls := .type "frame", slots := #[some (.ref 27), some (.ref 3), some (.ref 24), none, some (.str "wasmcore.modules" 214), none, some (.ref 0)] }, tu [], { cls := .none, data := .fields #[] }, tu [.str "self" 231, .str "kind" 232, .str "locals_now" 233, .str "body" 234], tu [], fr (methDef "Func" "__init__") "Func.__init__", co [.str "__init__" 228, .str "Func.__init__" 229, .str "/claim/cut.py" 230, .int 17 0, .int 4 0, .int 0 0, .int 0 0, .int 3 0, .ref 29, .bool true, .int 181 0, .ref 30, .none, .ref 31, .ref 32, .ref 33, .int 235 0, .int 17 0, .str "/claim/cut.py" 236], fo (methDef "Func" "__init__") "Func.__init__" .none "wasmcore.modules" 214 34, tu [], { cls := .none, data := .fields #[] }, tu [.str "self" 241], tu [], fr (methDef "Func" "plain") "Func.plain", co [.str "plain" 238, .str "Func.plain" 239, .str "/claim/cut.py" 240, .int 22 0, .int 1 0, .int 0 0, .int 0 0, .int 3 0, .ref 36, .bool true, .int 181 0, .ref 37, .none, .ref 38, .ref 39, .ref 40, .int 242 0, .int 22 0, .str "/claim/cut.py" 243], fo (methDef "Func" "plain") "Func.plain" .none "wasmcore.modules" 214 41, tu [.str "body" 245, .str "kind" 246, .str "locals" 247], di [en P "__module__" 223 (.str "wasmcore.modules" 214), en P "__firstlineno__" 227 (.int 15 226), en P "__init__" 237 (.ref 35), en P "plain" 244 (.ref 42), en P "__static_attributes__" 248 (.ref 43), en P "__dict__" 250 (.ref 46), en P "__weakref__" 252 (.ref 47), en P "__doc__" 253 (.none)] 4, { cls := .type "type", data := .cls { name := "Func", bases := [.type "object"], mro := [.ref 45, .type "object"], ns := 44, qualname := "Func" }, slots := #[none, none, some (.str "Func" 216), some (.str "Func" 224), some (.builtin "object.__new__"), some (.bool true)] }, { cls := .type "getset_descriptor", data := .fields #[.str "__dict__" 249, .ref 45, .builtin "function.__dict__", .builtin "function.__dict__#set"] }, { cls := .type "getset_descriptor", data := .fields #[.str "__weakref__" 251, .ref 45, .builtin "ExceptionGroup.__weakref__", .none] }, { cls := .type "super", data := .fields #[.ref 45, .ref 45, .ref 45] }, { cls := .type "builtin_function_or_method", data := .fields #[.builtin "object.__init_subclass__", .ref 45] }]
noncomputable def hs2 (P : Params) : List Obj := [tu [], { cls := .type "builtin_function_or_method", data := .fields #[.builtin "type.__prepare__", .type "type"] }, di [en P "__module__" 263 (.str "wasmcore.modules" 214), en P "__qualname__" 265 (.str "Module" 264), en P "__firstlineno__" 267 (.int 24 266), en P "__init__" 274 (.ref 63), en P "imported" 282 (.ref 70), en P "abouts" 288 (.ref 75), en P "func_kinds" 295 (.ref 82), en P "table_kinds" 302 (.ref 89), en P "memory_kinds" 309 (.ref 96), en P "global_kinds" 316 (.ref 103), en P "many" 325 (.ref 110), en P "func" 334 (.ref 117), en P "kind_of_func" 342 (.ref 124), en P "export" 350 (.ref 131), en P "plain" 358 (.ref 138), en P "bodies" 365 (.ref 145), en P "constants" 372 (.ref 152), en P "copy" 379 (.ref 159), en P "__static_attributes__" 391 (.ref 160)] 19, tu [], { cls := .none, data := .fields #[.int 26 0, .int 4 0, .ref 62, .int 39 0, .int 4 0, .ref 69, .int 42 0, .int 4 0, .ref 74, .int 45 0, .int 4 0, .ref 81, .int 48 0, .int 4 0, .ref 88, .int 51 0, .int 4 0, .ref 95, .int 54 0, .int 4 0, .ref 102, .int 57 0, .int 4 0, .ref 109, .int 61 0, .int 4 0, .ref 116, .int 65 0, .int 4 0, .ref 123, .int 68 0, .int 4 0, .ref 130, .int 71 0, .int 4 0, .ref 137, .int 76 0, .int 4 0, .ref 144, .int 79 0, .int 4 0, .ref 151, .int 82 0, .int 4 0, .ref 158] }, co [.str "Module" 258, .str "Module" 259, .str "/claim/cut.py" 260, .int 24 0, .int 0 0, .int 0 0, .int 0 0, .int 0 0, .ref 53, .bool false, .int 181 0, .ref 54, .none, .none, .none, .none, .int 261 0, .int 24 0, .str "/claim/cut.py" 262], { cls := .type "frame", slots := #[some (.ref 55), some (.ref 3), some (.ref 52), none, some (.str "wasmcore.modules" 214), none, some (.ref 0)] }, tu [], { cls := .none, data := .fields #[] }, tu [.str "self" 271], tu [], fr (methDef "Module" "__init__") "Module.__init__", co [.str "__init__" 268, .str "Module.__init__" 269, .str "/claim/cut.py" 270, .int 26 0, .int 1 0, .int 0 0, .int 0 0, .int 3 0, .ref 57, .bool true, .int 181 0, .ref 58, .none, .ref 59, .ref 60, .ref 61, .int 272 0, .int 26 0, .str "/claim/cut.py" 273], fo (methDef "Module" "__init__") "Module.__init__" .none "wasmcore.modules" 214 62, tu [], { cls := .none, data := .fields #[] }, tu [.str "self" 278, .str "sort" 279], tu [], fr (methDef "Module" "imported") "Module.imported", co [.str "imported" 275, .str "Module.imported" 276, .str "/claim/cut.py" 277, .int 39 0, .int 2 0, .int 0 0, .int 0 0, .int 3 0, .ref 64, .bool true, .int 181 0, .ref 65, .none, .ref 66, .ref 67, .ref 68, .int 280 0, .int 39 0, .str "/claim/cut.py" 281], fo (methDef "Module" "imported") "Module.imported" .none "wasmcore.modules" 214 69, tu [], { cls := .none, data := .fields #[] }, fr (methDef "Module" "abouts") "Module.abouts", co [.str "abouts" 283, .str "Module.abouts" 284, .str "/claim/cut.py" 285, .int 42 0, .int 2 0, .int 0 0, .int 0 0, .int 3 0, .ref 71, .bool true, .int 181 0, .ref 72, .none, .none, .none, .ref 73, .int 286 0, .int 42 0, .str "/claim/cut.py" 287], fo (methDef "Module" "abouts") "Module.abouts" .none "wasmcore.modules" 214 74, tu [], { cls := .none, data := .fields #[] }, tu [.str "self" 292], tu [], fr (methDef "Module" "func_kinds") "Module.func_kinds", co [.str "func_kinds" 289, .str "Module.func_kinds" 290, .str "/claim/cut.py" 291, .int 45 0, .int 1 0, .int 0 0, .int 0 0, .int 3 0, .ref 76, .bool true, .int 181 0, .ref 77, .none, .ref 78, .ref 79, .ref 80, .int 293 0, .int 45 0, .str "/claim/cut.py" 294], fo (methDef "Module" "func_kinds") "Module.func_kinds" .none "wasmcore.modules" 214 81, tu [], { cls := .none, data := .fields #[] }, tu [.str "self" 299], tu [], fr (methDef "Module" "table_kinds") "Module.table_kinds", co [.str "table_kinds" 296, .str "Module.table_kinds" 297, .str "/claim/cut.py" 298, .int 48 0, .int 1 0, .int 0 0, .int 0 0, .int 3 0, .ref 83, .bool true, .int 181 0, .ref 84, .none, .ref 85, .ref 86, .ref 87, .int 300 0, .int 48 0, .str "/claim/cut.py" 301], fo (methDef "Module" "table_kinds") "Module.table_kinds" .none "wasmcore.modules" 214 88, tu [], { cls := .none, data := .fields #[] }, tu [.str "self" 306], tu [], fr (methDef "Module" "memory_kinds") "Module.memory_kinds", co [.str "memory_kinds" 303, .str "Module.memory_kinds" 304, .str "/claim/cut.py" 305, .int 51 0, .int 1 0, .int 0 0, .int 0 0, .int 3 0, .ref 90, .bool true, .int 181 0, .ref 91, .none, .ref 92, .ref 93, .ref 94, .int 307 0, .int 51 0, .str "/claim/cut.py" 308], fo (methDef "Module" "memory_kinds") "Module.memory_kinds" .none "wasmcore.modules" 214 95, tu [], { cls := .none, data := .fields #[] }, tu [.str "self" 313], tu [], fr (methDef "Module" "global_kinds") "Module.global_kinds", co [.str "global_kinds" 310, .str "Module.global_kinds" 311, .str "/claim/cut.py" 312, .int 54 0, .int 1 0, .int 0 0, .int 0 0, .int 3 0, .ref 97, .bool true, .int 181 0, .ref 98, .none, .ref 99, .ref 100, .ref 101, .int 314 0, .int 54 0, .str "/claim/cut.py" 315], fo (methDef "Module" "global_kinds") "Module.global_kinds" .none "wasmcore.modules" 214 102, tu [], { cls := .none, data := .fields #[] }, tu [.str "self" 320, .str "sort" 321, .str "own" 322], tu [], fr (methDef "Module" "many") "Module.many", co [.str "many" 317, .str "Module.many" 318, .str "/claim/cut.py" 319, .int 57 0, .int 2 0, .int 0 0, .int 0 0, .int 3 0, .ref 104, .bool true, .int 181 0, .ref 105, .none, .ref 106, .ref 107, .ref 108, .int 323 0, .int 57 0, .str "/claim/cut.py" 324], fo (methDef "Module" "many") "Module.many" .none "wasmcore.modules" 214 109, tu [], { cls := .none, data := .fields #[] }, tu [.str "self" 329, .str "index" 330, .str "place" 331], tu [], fr (methDef "Module" "func") "Module.func", co [.str "func" 326, .str "Module.func" 327, .str "/claim/cut.py" 328, .int 61 0, .int 2 0, .int 0 0, .int 0 0, .int 3 0, .ref 111, .bool true, .int 181 0, .ref 112, .none, .ref 113, .ref 114, .ref 115, .int 332 0, .int 61 0, .str "/claim/cut.py" 333], fo (methDef "Module" "func") "Module.func" .none "wasmcore.modules" 214 116, tu [], { cls := .none, data := .fields #[] }, tu [.str "self" 338, .str "index" 339], tu [], fr (methDef "Module" "kind_of_func") "Module.kind_of_func", co [.str "kind_of_func" 335, .str "Module.kind_of_func" 336, .str "/claim/cut.py" 337, .int 65 0, .int 2 0, .int 0 0, .int 0 0, .int 3 0, .ref 118, .bool true, .int 181 0, .ref 119, .none, .ref 120, .ref 121, .ref 122, .int 340 0, .int 65 0, .str "/claim/cut.py" 341], fo (methDef "Module" "kind_of_func") "Module.kind_of_func" .none "wasmcore.modules" 214 123, tu [], { cls := .none, data := .fields #[] }, tu [.str "self" 346, .str "name" 347], tu [], fr (methDef "Module" "export") "Module.export", co [.str "export" 343, .str "Module.export" 344, .str "/claim/cut.py" 345, .int 68 0, .int 2 0, .int 0 0, .int 0 0, .int 3 0, .ref 125, .bool true, .int 181 0, .ref 126, .none, .ref 127, .ref 128, .ref 129, .int 348 0, .int 68 0, .str "/claim/cut.py" 349], fo (methDef "Module" "export") "Module.export" .none "wasmcore.modules" 214 130, tu [], { cls := .none, data := .fields #[] }, tu [.str "self" 354, .str "own" 355], tu [], fr (methDef "Module" "plain") "Module.plain", co [.str "plain" 351, .str "Module.plain" 352, .str "/claim/cut.py" 353, .int 71 0, .int 1 0, .int 0 0, .int 0 0, .int 3 0, .ref 132, .bool true, .int 181 0, .ref 133, .none, .ref 134, .ref 135, .ref 136, .int 356 0, .int 71 0, .str "/claim/cut.py" 357], fo (methDef "Module" "plain") "Module.plain" .none "wasmcore.modules" 214 137, tu [], { cls := .none, data := .fields #[] }, tu [.str "self" 362], tu [], fr (methDef "Module" "bodies") "Module.bodies", co [.str "bodies" 359, .str "Module.bodies" 360, .str "/claim/cut.py" 361, .int 76 0, .int 1 0, .int 0 0, .int 0 0, .int 3 0, .ref 139, .bool true, .int 181 0, .ref 140, .none, .ref 141, .ref 142, .ref 143, .int 363 0, .int 76 0, .str "/claim/cut.py" 364], fo (methDef "Module" "bodies") "Module.bodies" .none "wasmcore.modules" 214 144, tu [], { cls := .none, data := .fields #[] }, tu [.str "self" 369], tu [], fr (methDef "Module" "constants") "Module.constants", co [.str "constants" 366, .str "Module.constants" 367, .str "/claim/cut.py" 368, .int 79 0, .int 1 0, .int 0 0, .int 0 0, .int 3 0, .ref 146, .bool true, .int 181 0, .ref 147, .none, .ref 148, .ref 149, .ref 150, .int 370 0, .int 79 0, .str "/claim/cut.py" 371], fo (methDef "Module" "constants") "Module.constants" .none "wasmcore.modules" 214 151, tu [], { cls := .none, data := .fields #[] }, tu [.str "self" 376], tu [], fr (methDef "Module" "copy") "Module.copy", co [.str "copy" 373, .str "Module.copy" 374, .str "/claim/cut.py" 375, .int 82 0, .int 1 0, .int 0 0, .int 0 0, .int 3 0, .ref 153, .bool true, .int 181 0, .ref 154, .none, .ref 155, .ref 156, .ref 157, .int 377 0, .int 82 0, .str "/claim/cut.py" 378], fo (methDef "Module" "copy") "Module.copy" .none "wasmcore.modules" 214 158, tu [.str "customs" 380, .str "datas" 381, .str "elems" 382, .str "exports" 383, .str "funcs" 384, .str "globals" 385, .str "imports" 386, .str "kinds" 387, .str "memories" 388, .str "start" 389, .str "tables" 390], di [en P "__module__" 263 (.str "wasmcore.modules" 214), en P "__firstlineno__" 267 (.int 24 266), en P "__init__" 274 (.ref 63), en P "imported" 282 (.ref 70), en P "abouts" 288 (.ref 75), en P "func_kinds" 295 (.ref 82), en P "table_kinds" 302 (.ref 89), en P "memory_kinds" 309 (.ref 96), en P "global_kinds" 316 (.ref 103), en P "many" 325 (.ref 110), en P "func" 334 (.ref 117), en P "kind_of_func" 342 (.ref 124), en P "export" 350 (.ref 131), en P "plain" 358 (.ref 138), en P "bodies" 365 (.ref 145), en P "constants" 372 (.ref 152), en P "copy" 379 (.ref 159), en P "__static_attributes__" 391 (.ref 160), en P "__dict__" 393 (.ref 163), en P "__weakref__" 395 (.ref 164), en P "__doc__" 396 (.none)] 4, { cls := .type "type", data := .cls { name := "Module", bases := [.type "object"], mro := [.ref 162, .type "object"], ns := 161, qualname := "Module" }, slots := #[none, none, some (.str "Module" 256), some (.str "Module" 264), some (.builtin "object.__new__"), some (.bool true)] }, { cls := .type "getset_descriptor", data := .fields #[.str "__dict__" 392, .ref 162, .builtin "function.__dict__", .builtin "function.__dict__#set"] }, { cls := .type "getset_descriptor", data := .fields #[.str "__weakref__" 394, .ref 162, .builtin "ExceptionGroup.__weakref__", .none] }, { cls := .type "super", data := .fields #[.ref 162, .ref 162, .ref 162] }, { cls := .type "builtin_function_or_method", data := .fields #[.builtin "object.__init_subclass__", .ref 162] }]
noncomputable def hs3 (P : Params) : List Obj := [tu [], { cls := .none, data := .fields #[] }, fr (topDef "parts_of") "parts_of", co [.str "parts_of" 399, .str "parts_of" 400, .str "/claim/cut.py" 401, .int 84 0, .int 1 0, .int 0 0, .int 0 0, .int 3 0, .ref 167, .bool true, .int 181 0, .ref 168, .none, .none, .none, .ref 169, .int 402 0, .int 84 0, .str "/claim/cut.py" 403], fo (topDef "parts_of") "parts_of" .none "wasmcore.modules" 214 170]
noncomputable def hs4 (P : Params) : List Obj := [tu [], { cls := .type "builtin_function_or_method", data := .fields #[.builtin "type.__prepare__", .type "type"] }, di [en P "__module__" 414 (.str "wasmcore.pieces" 405), en P "__qualname__" 416 (.str "Piece" 415), en P "__firstlineno__" 418 (.int 87 417), en P "__init__" 428 (.ref 186), en P "code" 436 (.ref 194), en P "parts" 442 (.ref 199), en P "labels" 449 (.ref 206), en P "__static_attributes__" 453 (.ref 207)] 8, tu [], { cls := .none, data := .fields #[.int 89 0, .int 4 0, .ref 185, .int 95 0, .int 4 0, .ref 192, .int 98 0, .int 4 0, .ref 198, .int 101 0, .int 4 0, .ref 205] }, co [.str "Piece" 409, .str "Piece" 410, .str "/claim/cut.py" 411, .int 87 0, .int 0 0, .int 0 0, .int 0 0, .int 0 0, .ref 175, .bool false, .int 181 0, .ref 176, .none, .none, .none, .none, .int 412 0, .int 87 0, .str "/claim/cut.py" 413], { cls := .type "frame", slots := #[some (.ref 177), some (.ref 3), some (.ref 174), none, some (.str "wasmcore.pieces" 405), none, some (.ref 0)] }, tu [.none, .none], tu [], { cls := .none, data := .fields #[] }, tu [.str "self" 422, .str "plain" 423, .str "first" 424, .str "second" 425], tu [], fr (methDef "Piece" "__init__") "Piece.__init__", co [.str "__init__" 419, .str "Piece.__init__" 420, .str "/claim/cut.py" 421, .int 89 0, .int 4 0, .int 0 0, .int 0 0, .int 3 0, .ref 180, .bool true, .int 181 0, .ref 181, .none, .ref 182, .ref 183, .ref 184, .int 426 0, .int 89 0, .str "/claim/cut.py" 427], fo (methDef "Piece" "__init__") "Piece.__init__" (.ref 179) "wasmcore.pieces" 405 185, tu [], { cls := .none, data := .fields #[] }, tu [.str "self" 432], tu [], fr (methDef "Piece" "code") "Piece.code", co [.str "code" 429, .str "Piece.code" 430, .str "/claim/cut.py" 431, .int 94 0, .int 1 0, .int 0 0, .int 0 0, .int 3 0, .ref 187, .bool true, .int 181 0, .ref 188, .none, .ref 189, .ref 190, .ref 191, .int 433 0, .int 94 0, .str "/claim/cut.py" 434], fo (methDef "Piece" "code") "Piece.code" .none "wasmcore.pieces" 405 192, { cls := .type "property", data := .fields #[.ref 193, .none, .none, .none, .str "code" 436, .bool false] }, tu [], { cls := .none, data := .fields #[] }, fr (methDef "Piece" "parts") "Piece.parts", co [.str "parts" 437, .str "Piece.parts" 438, .str "/claim/cut.py" 439, .int 98 0, .int 1 0, .int 0 0, .int 0 0, .int 3 0, .ref 195, .bool true, .int 181 0, .ref 196, .none, .none, .none, .ref 197, .int 440 0, .int 98 0, .str "/claim/cut.py" 441], fo (methDef "Piece" "parts") "Piece.parts" .none "wasmcore.pieces" 405 198, tu [], { cls := .none, data := .fields #[] }, tu [.str "self" 446], tu [], fr (methDef "Piece" "labels") "Piece.labels", co [.str "labels" 443, .str "Piece.labels" 444, .str "/claim/cut.py" 445, .int 101 0, .int 1 0, .int 0 0, .int 0 0, .int 3 0, .ref 200, .bool true, .int 181 0, .ref 201, .none, .ref 202, .ref 203, .ref 204, .int 447 0, .int 101 0, .str "/claim/cut.py" 448], fo (methDef "Piece" "labels") "Piece.labels" .none "wasmcore.pieces" 405 205, tu [.str "first" 450, .str "plain" 451, .str "second" 452], di [en P "__module__" 414 (.str "wasmcore.pieces" 405), en P "__firstlineno__" 418 (.int 87 417), en P "__init__" 428 (.ref 186), en P "code" 436 (.ref 194), en P "parts" 442 (.ref 199), en P "labels" 449 (.ref 206), en P "__static_attributes__" 453 (.ref 207), en P "__dict__" 455 (.ref 210), en P "__weakref__" 457 (.ref 211), en P "__doc__" 458 (.none)] 4, { cls := .type "type", data := .cls { name := "Piece", bases := [.type "object"], mro := [.ref 209, .type "object"], ns := 208, qualname := "Piece" }, slots := #[none, none, some (.str "Piece" 407), some (.str "Piece" 415), some (.builtin "object.__new__"), some (.bool true)] }, { cls := .type "getset_descriptor", data := .fields #[.str "__dict__" 454, .ref 209, .builtin "function.__dict__", .builtin "function.__dict__#set"] }, { cls := .type "getset_descriptor", data := .fields #[.str "__weakref__" 456, .ref 209, .builtin "ExceptionGroup.__weakref__", .none] }, { cls := .type "super", data := .fields #[.ref 209, .ref 209, .ref 209] }, { cls := .type "builtin_function_or_method", data := .fields #[.builtin "object.__init_subclass__", .ref 209] }]
noncomputable def hs5 (P : Params) : List Obj := [tu [], { cls := .none, data := .fields #[] }, tu [.str "body" 464, .str "here" 465, .str "opened" 466, .str "plain" 467, .str "piece" 468], tu [], fr (topDef "pieces_of") "pieces_of", co [.str "pieces_of" 461, .str "pieces_of" 462, .str "/claim/cut.py" 463, .int 103 0, .int 1 0, .int 0 0, .int 0 0, .int 3 0, .ref 214, .bool true, .int 181 0, .ref 215, .none, .ref 216, .ref 217, .ref 218, .int 469 0, .int 103 0, .str "/claim/cut.py" 470], fo (topDef "pieces_of") "pieces_of" .none "wasmcore.pieces" 405 219, tu [], { cls := .none, data := .fields #[] }, tu [.str "pieces" 475, .str "body" 476, .str "piece" 477], tu [], fr (topDef "put_pieces") "put_pieces", co [.str "put_pieces" 472, .str "put_pieces" 473, .str "/claim/cut.py" 474, .int 120 0, .int 2 0, .int 0 0, .int 0 0, .int 3 0, .ref 221, .bool true, .int 181 0, .ref 222, .none, .ref 223, .ref 224, .ref 225, .int 478 0, .int 120 0, .str "/claim/cut.py" 479], fo (topDef "put_pieces") "put_pieces" .none "wasmcore.pieces" 405 226, tu [], { cls := .none, data := .fields #[] }, tu [.str "pieces" 484, .str "body" 485], tu [], fr (topDef "body_of") "body_of", co [.str "body_of" 481, .str "body_of" 482, .str "/claim/cut.py" 483, .int 129 0, .int 1 0, .int 0 0, .int 0 0, .int 3 0, .ref 228, .bool true, .int 181 0, .ref 229, .none, .ref 230, .ref 231, .ref 232, .int 486 0, .int 129 0, .str "/claim/cut.py" 487], fo (topDef "body_of") "body_of" .none "wasmcore.pieces" 405 233, tu [], { cls := .none, data := .fields #[] }, tu [.str "found" 494, .str "codes" 495, .str "local" 496], tu [], fr (topDef "join_last") "join_last", co [.str "join_last" 491, .str "join_last" 492, .str "/claim/cut.py" 493, .int 135 0, .int 1 0, .int 0 0, .int 0 0, .int 3 0, .ref 235, .bool true, .int 181 0, .ref 236, .none, .ref 237, .ref 238, .ref 239, .int 497 0, .int 135 0, .str "/claim/cut.py" 498], fo (topDef "join_last") "join_last" .none "wasmcore.passes" 489 240, tu [], { cls := .none, data := .fields #[] }, tu [.str "pieces" 503, .str "found" 504, .str "piece" 505, .str "part" 506], tu [], fr (topDef "join_locals") "join_locals", co [.str "join_locals" 500, .str "join_locals" 501, .str "/claim/cut.py" 502, .int 150 0, .int 1 0, .int 0 0, .int 0 0, .int 3 0, .ref 242, .bool true, .int 181 0, .ref 243, .none, .ref 244, .ref 245, .ref 246, .int 507 0, .int 150 0, .str "/claim/cut.py" 508], fo (topDef "join_locals") "join_locals" .none "wasmcore.passes" 489 247, tu [], { cls := .none, data := .fields #[] }, tu [.str "module" 513, .str "func" 514, .str "params" 515, .str "read" 516, .str "plain" 517, .str "places" 518, .str "kept" 519, .str "index" 520, .str "body" 521], tu [], fr (topDef "without_locals") "without_locals", co [.str "without_locals" 510, .str "without_locals" 511, .str "/claim/cut.py" 512, .int 159 0, .int 2 0, .int 0 0, .int 0 0, .int 3 0, .ref 249, .bool true, .int 181 0, .ref 250, .none, .ref 251, .ref 252, .ref 253, .int 522 0, .int 159 0, .str "/claim/cut.py" 523], fo (topDef "without_locals") "without_locals" .none "wasmcore.passes" 489 254, tu [], { cls := .none, data := .fields #[] }, tu [.str "tape" 530], tu [], fr (topDef "_law_next") "_law_next", co [.str "_law_next" 527, .str "_law_next" 528, .str "/claim/cut.py" 529, .int 184 0, .int 1 0, .int 0 0, .int 0 0, .int 3 0, .ref 256, .bool true, .int 181 0, .ref 257, .none, .ref 258, .ref 259, .ref 260, .int 531 0, .int 184 0, .str "/claim/cut.py" 532], fo (topDef "_law_next") "_law_next" .none "law_nm0135_01" 525 261, tu [], { cls := .none, data := .fields #[] }, tu [.str "tape" 537, .str "state" 538, .str "height" 539, .str "deep" 540, .str "number" 541, .str "way" 542, .str "rest" 543], tu [], fr (topDef "_law_pick") "_law_pick", co [.str "_law_pick" 534, .str "_law_pick" 535, .str "/claim/cut.py" 536, .int 186 0, .int 4 0, .int 0 0, .int 0 0, .int 3 0, .ref 263, .bool true, .int 181 0, .ref 264, .none, .ref 265, .ref 266, .ref 267, .int 544 0, .int 186 0, .str "/claim/cut.py" 545], fo (topDef "_law_pick") "_law_pick" .none "law_nm0135_01" 525 268, tu [], { cls := .none, data := .fields #[] }, tu [.str "tape" 550, .str "state" 551, .str "many" 552, .str "deep" 553, .str "items" 554, .str "height" 555, .str "turn" 556, .str "way" 557, .str "rest" 558, .str "first" 559, .str "second" 560], tu [], fr (topDef "_law_items") "_law_items", co [.str "_law_items" 547, .str "_law_items" 548, .str "/claim/cut.py" 549, .int 198 0, .int 4 0, .int 0 0, .int 0 0, .int 3 0, .ref 270, .bool true, .int 181 0, .ref 271, .none, .ref 272, .ref 273, .ref 274, .int 561 0, .int 198 0, .str "/claim/cut.py" 562], fo (topDef "_law_items") "_law_items" .none "law_nm0135_01" 525 275, tu [], { cls := .none, data := .fields #[] }, tu [.str "items" 567, .str "body" 568, .str "plain" 569, .str "first" 570, .str "second" 571], tu [], fr (topDef "_law_flat") "_law_flat", co [.str "_law_flat" 564, .str "_law_flat" 565, .str "/claim/cut.py" 566, .int 219 0, .int 1 0, .int 0 0, .int 0 0, .int 3 0, .ref 277, .bool true, .int 181 0, .ref 278, .none, .ref 279, .ref 280, .ref 281, .int 572 0, .int 219 0, .str "/claim/cut.py" 573], fo (topDef "_law_flat") "_law_flat" .none "law_nm0135_01" 525 282, tu [], { cls := .none, data := .fields #[] }, fr (topDef "_law_two") "_law_two", co [.str "_law_two" 575, .str "_law_two" 576, .str "/claim/cut.py" 577, .int 228 0, .int 2 0, .int 0 0, .int 0 0, .int 3 0, .ref 284, .bool true, .int 181 0, .ref 285, .none, .none, .none, .ref 286, .int 578 0, .int 228 0, .str "/claim/cut.py" 579], fo (topDef "_law_two") "_law_two" .none "law_nm0135_01" 525 287]
noncomputable def hs6 (P : Params) : List Obj := [tu [], { cls := .none, data := .fields #[] }, tu [.str "items" 584, .str "found" 585, .str "plain" 586, .str "first" 587, .str "second" 588, .str "inner" 589, .str "at" 590, .str "two" 591], tu [], fr (topDef "_law_joined") "_law_joined", co [.str "_law_joined" 581, .str "_law_joined" 582, .str "/claim/cut.py" 583, .int 234 0, .int 1 0, .int 0 0, .int 0 0, .int 3 0, .ref 289, .bool true, .int 181 0, .ref 290, .none, .ref 291, .ref 292, .ref 293, .int 592 0, .int 234 0, .str "/claim/cut.py" 593], fo (topDef "_law_joined") "_law_joined" .none "law_nm0135_01" 525 294, tu [], { cls := .none, data := .fields #[] }, fr (topDef "_law_kept") "_law_kept", co [.str "_law_kept" 595, .str "_law_kept" 596, .str "/claim/cut.py" 597, .int 246 0, .int 3 0, .int 0 0, .int 0 0, .int 3 0, .ref 296, .bool true, .int 181 0, .ref 297, .none, .none, .none, .ref 298, .int 598 0, .int 246 0, .str "/claim/cut.py" 599], fo (topDef "_law_kept") "_law_kept" .none "law_nm0135_01" 525 299, tu [], { cls := .none, data := .fields #[] }, tu [.str "body" 604, .str "at" 605, .str "is_else" 606, .str "deep" 607], tu [], fr (topDef "_law_behind") "_law_behind", co [.str "_law_behind" 601, .str "_law_behind" 602, .str "/claim/cut.py" 603, .int 258 0, .int 3 0, .int 0 0, .int 0 0, .int 3 0, .ref 301, .bool true, .int 181 0, .ref 302, .none, .ref 303, .ref 304, .ref 305, .int 608 0, .int 258 0, .str "/claim/cut.py" 609], fo (topDef "_law_behind") "_law_behind" .none "law_nm0135_01" 525 306, tu [], { cls := .none, data := .fields #[] }, tu [.str "body" 614, .str "places" 615, .str "stack" 616, .str "told" 617, .str "at" 618, .str "plain" 619], tu [], fr (topDef "_law_run") "_law_run", co [.str "_law_run" 611, .str "_law_run" 612, .str "/claim/cut.py" 613, .int 264 0, .int 2 0, .int 0 0, .int 0 0, .int 3 0, .ref 308, .bool true, .int 181 0, .ref 309, .none, .ref 310, .ref 311, .ref 312, .int 620 0, .int 264 0, .str "/claim/cut.py" 621], fo (topDef "_law_run") "_law_run" .none "law_nm0135_01" 525 313, tu [], { cls := .none, data := .fields #[] }, tu [.str "body" 626, .str "pieces" 627], tu [], fr (topDef "_law_join") "_law_join", co [.str "_law_join" 623, .str "_law_join" 624, .str "/claim/cut.py" 625, .int 285 0, .int 1 0, .int 0 0, .int 0 0, .int 3 0, .ref 315, .bool true, .int 181 0, .ref 316, .none, .ref 317, .ref 318, .ref 319, .int 628 0, .int 285 0, .str "/claim/cut.py" 629], fo (topDef "_law_join") "_law_join" .none "law_nm0135_01" 525 320, tu [], { cls := .none, data := .fields #[] }, tu [.str "module" 634, .str "kind" 635, .str "own" 636, .str "body" 637, .str "values" 638, .str "params" 639, .str "given" 640, .str "told" 641, .str "due" 642], tu [], fr (topDef "_law_is_kept_right") "_law_is_kept_right", co [.str "_law_is_kept_right" 631, .str "_law_is_kept_right" 632, .str "/claim/cut.py" 633, .int 289 0, .int 5 0, .int 0 0, .int 0 0, .int 3 0, .ref 322, .bool true, .int 181 0, .ref 323, .none, .ref 324, .ref 325, .ref 326, .int 643 0, .int 289 0, .str "/claim/cut.py" 644], fo (topDef "_law_is_kept_right") "_law_is_kept_right" .none "law_nm0135_01" 525 327, tu [], { cls := .none, data := .fields #[] }, fr (topDef "law") "law", co [.str "law" 646, .str "law" 647, .str "/claim/cut.py" 648, .int 299 0, .int 1 0, .int 0 0, .int 0 0, .int 3 0, .ref 329, .bool true, .int 181 0, .ref 330, .none, .none, .none, .ref 331, .int 649 0, .int 299 0, .str "/claim/cut.py" 650], fo (topDef "law") "law" .none "law_nm0135_01" 525 332]
noncomputable def glE (P : Params) : List DictEntry := [en P "__doc__" 166 (.none), en P "__package__" 167 (.none), en P "__loader__" 168 (.builtin "__main__.__loader__#opaque"), en P "__spec__" 169 (.none), en P "__annotations__" 170 (.ref 6), en P "__builtins__" 171 (.ref 4), en P "__file__" 173 (.str "/claim/cut.py" 172), en P "__cached__" 174 (.none), en P "_wall" 193 (.ref 21), en P "BLOCK" 195 (.int 2 194), en P "LOOP" 197 (.int 3 196), en P "IF" 199 (.int 4 198), en P "ELSE" 201 (.int 5 200), en P "END" 203 (.int 11 202), en P "DROP" 205 (.int 26 204), en P "LOCAL_GET" 207 (.int 32 206), en P "LOCAL_SET" 209 (.int 33 208), en P "LOCAL_TEE" 211 (.int 34 210), en P "FUNCTION" 213 (.int 0 212), en P "Func" 255 (.ref 45), en P "Module" 398 (.ref 162), en P "parts_of" 404 (.ref 171), en P "Piece" 460 (.ref 209), en P "pieces_of" 471 (.ref 220), en P "put_pieces" 480 (.ref 227), en P "body_of" 488 (.ref 234), en P "join_last" 499 (.ref 241), en P "join_locals" 509 (.ref 248), en P "without_locals" 524 (.ref 255), en P "_law_next" 533 (.ref 262), en P "_law_pick" 546 (.ref 269), en P "_law_items" 563 (.ref 276), en P "_law_flat" 574 (.ref 283), en P "_law_two" 580 (.ref 288), en P "_law_joined" 594 (.ref 295), en P "_law_kept" 600 (.ref 300), en P "_law_behind" 610 (.ref 307), en P "_law_run" 622 (.ref 314), en P "_law_join" 630 (.ref 321), en P "_law_is_kept_right" 645 (.ref 328), en P "law" 651 (.ref 333)]
noncomputable def gl (P : Params) (m : Str) (t k : Nat) : Obj := di (en P "__name__" 165 (.str m t) :: (glE P).take k) (k + 1)
noncomputable def tr : List (Int × Nat) := [(1, 20), (15, 27), (24, 55), (84, 170), (87, 177), (103, 219), (120, 226), (129, 233), (135, 240), (150, 247), (159, 254), (184, 261), (186, 268), (198, 275), (219, 282), (228, 287), (234, 294), (246, 299), (258, 306), (264, 313), (285, 320), (289, 327), (299, 332)]
noncomputable def ob12 (k : Nat) : Obj := { cls := .none, data := .fields ((tr.take k).flatMap fun x => [.int x.1 0, .int 0 0, .ref x.2]).toArray }
noncomputable def hp (P : Params) (g c : Obj) (l : List Obj) : Heap := { objs := ([boot_o_0 P, boot_o_1 P, boot_o_2 P, g, boot_o_4 P, boot_o_5 P, boot_o_6 P, boot_o_7 P, boot_o_8 P, boot_o_9 P, boot_o_10 P, tu [], c] ++ l).toArray }
noncomputable def hpA0 (P : Params) : Heap := hp P (boot_o_3 P) (ob12 0) (hs0 P)
noncomputable def hpA (P : Params) : Heap := hp P (gl P "wasmcore.modules" 214 20) (ob12 2) (hs0 P ++ hs1 P)
noncomputable def hpB (P : Params) : Heap := hp P (gl P "wasmcore.modules" 214 21) (ob12 3) (hs0 P ++ hs1 P ++ hs2 P)
noncomputable def hpC (P : Params) : Heap := hp P (gl P "wasmcore.pieces" 405 22) (ob12 4) (hs0 P ++ hs1 P ++ hs2 P ++ hs3 P)
noncomputable def hpD (P : Params) : Heap := hp P (gl P "wasmcore.pieces" 405 23) (ob12 5) (hs0 P ++ hs1 P ++ hs2 P ++ hs3 P ++ hs4 P)
noncomputable def hpE (P : Params) : Heap := hp P (gl P "law_nm0135_01" 525 34) (ob12 16) (hs0 P ++ hs1 P ++ hs2 P ++ hs3 P ++ hs4 P ++ hs5 P)
noncomputable def hpF (P : Params) : Heap := hp P (gl P "law_nm0135_01" 525 41) (ob12 23) (hs0 P ++ hs1 P ++ hs2 P ++ hs3 P ++ hs4 P ++ hs5 P ++ hs6 P)
noncomputable def obAt (P : Params) (a : Nat) : Obj := if a = 2 then boot_o_2 P else if a = 3 then gl P "law_nm0135_01" 525 41 else if a < 15 then (hs0 P).getD (a - 13) default else if a < 50 then (hs1 P).getD (a - 15) default else if a < 167 then (hs2 P).getD (a - 50) default else if a < 172 then (hs3 P).getD (a - 167) default else if a < 214 then (hs4 P).getD (a - 172) default else if a < 289 then (hs5 P).getD (a - 214) default else (hs6 P).getD (a - 289) default
noncomputable def kas : List Addr := [2, 3, 15, 17, 18, 20, 21, 29, 31, 32, 34, 35, 36, 38, 39, 41, 42, 43, 44, 45, 46, 47, 57, 59, 60, 62, 63, 64, 66, 67, 69, 70, 71, 74, 75, 76, 78, 79, 81, 82, 83, 85, 86, 88, 89, 90, 92, 93, 95, 96, 97, 99, 100, 102, 103, 104, 106, 107, 109, 110, 111, 113, 114, 116, 117, 118, 120, 121, 123, 124, 125, 127, 128, 130, 131, 132, 134, 135, 137, 138, 139, 141, 142, 144, 145, 146, 148, 149, 151, 152, 153, 155, 156, 158, 159, 160, 161, 162, 163, 164, 167, 170, 171, 179, 180, 182, 183, 185, 186, 187, 189, 190, 192, 193, 194, 195, 198, 199, 200, 202, 203, 205, 206, 207, 208, 209, 210, 211, 214, 216, 217, 219, 220, 221, 223, 224, 226, 227, 228, 230, 231, 233, 234, 235, 237, 238, 240, 241, 242, 244, 245, 247, 248, 249, 251, 252, 254, 255, 256, 258, 259, 261, 262, 263, 265, 266, 268, 269, 270, 272, 273, 275, 276, 277, 279, 280, 282, 283, 284, 287, 288, 289, 291, 292, 294, 295, 296, 299, 300, 301, 303, 304, 306, 307, 308, 310, 311, 313, 314, 315, 317, 318, 320, 321, 322, 324, 325, 327, 328, 329, 332, 333]
noncomputable def KF (P : Params) : Frag := kas.map fun a => (a, obAt P a)
abbrev hP : Program := PySem.Challenge.pw_nm0135_01
noncomputable def hE : Env := { scope := hP.main.scope, locals := mainNs, globals := mainNs, cells := [], code := .ref 13, frame := some 14 }
noncomputable abbrev hC : Code := .body (behindTheImports hP) hE
abbrev q0 : Pos := ⟨0, 0, 0, 0⟩
noncomputable def hS (n m : Nat) : List Stmt := ((behindTheImports hP).drop n).take (m - n)
def st8 (H : Params → Heap) (P : Params) (t : Nat) (os : OsState) : Shared := ⟨H P, #[], {}, t, os⟩
section
variable (w : World) (os : OsState)
theorem r0 : topGo treeTable hP w 11 (some (.ref 6)) 12 ⟨boot_heap w.params, #[], boot_drawn, boot_toks, os⟩ (topStub hP) = some (st8 hpA0 w.params 187 os, ⟨denote treeTable hC, hC, q0, [topFrame q0]⟩) := by kernel_rfl
theorem r1 : segRun treeTable hP w 11 (some (.ref 6)) 1 1 (st8 hpA0 w.params 187 os) (blockOf (behindTheImports hP) hE hC q0 [topFrame q0]) = some (.next, st8 hpA0 w.params 187 os, hC, q0) := by kernel_rfl
theorem rA : segRun treeTable hP w 11 (some (.ref 6)) 1 386 (st8 hpA0 w.params 187 os) (piecesOf (hS 0 13) hE hC q0 [topFrame q0]) = some (.next, st8 hpA w.params 256 os, hC, ⟨15, 0, 23, 64⟩) := by rw [PySem.W.Fast.te14374325043358763698, PySem.W.Fast.te14364793385576792824]; kernel_rfl
theorem rB : segRun treeTable hP w 11 (some (.ref 6)) 1 671 (st8 hpA w.params 256 os) (piecesOf (hS 13 14) hE hC ⟨15, 0, 23, 64⟩ [topFrame q0]) = some (.next, st8 hpB w.params 399 os, hC, ⟨24, 0, 83, 16⟩) := by rw [PySem.W.Fast.te14374325043358763698, PySem.W.Fast.te14364793385576792824]; kernel_rfl
theorem rC : segRun treeTable hP w 11 (some (.ref 6)) 1 36 (st8 hpB w.params 399 os) (piecesOf (hS 14 16) hE hC ⟨24, 0, 83, 16⟩ [topFrame q0]) = some (.next, st8 hpC w.params 407 os, hC, ⟨86, 0, 86, 8⟩) := by rw [PySem.W.Fast.te14374325043358763698, PySem.W.Fast.te14364793385576792824]; kernel_rfl
theorem rD : segRun treeTable hP w 11 (some (.ref 6)) 1 376 (st8 hpC w.params 407 os) (piecesOf (hS 16 17) hE hC ⟨86, 0, 86, 8⟩ [topFrame q0]) = some (.next, st8 hpD w.params 461 os, hC, ⟨87, 0, 102, 16⟩) := by rw [PySem.W.Fast.te14374325043358763698, PySem.W.Fast.te14364793385576792824]; kernel_rfl
theorem rE : segRun treeTable hP w 11 (some (.ref 6)) 1 375 (st8 hpD w.params 461 os) (piecesOf (hS 17 30) hE hC ⟨87, 0, 102, 16⟩ [topFrame q0]) = some (.next, st8 hpE w.params 581 os, hC, ⟨228, 0, 233, 107⟩) := by rw [PySem.W.Fast.te14374325043358763698, PySem.W.Fast.te14364793385576792824]; kernel_rfl
theorem rF : segRun treeTable hP w 11 (some (.ref 6)) 1 222 (st8 hpE w.params 581 os) (piecesOf (hS 30 37) hE hC ⟨228, 0, 233, 107⟩ [topFrame q0]) = some (.next, st8 hpF w.params 652 os, hC, ⟨299, 0, 314, 117⟩) := by rw [PySem.W.Fast.te14374325043358763698, PySem.W.Fast.te14364793385576792824]; kernel_rfl
theorem rG : topRun treeTable hP w 11 (some (.ref 6)) 2 (st8 hpF w.params 652 os) ⟨doneF .next, hC, ⟨299, 0, 314, 117⟩, [topFrame q0]⟩ = some (st8 hpF w.params 652 os) := by kernel_rfl
theorem hSall : behindTheImports hP = hS 0 13 ++ (hS 13 14 ++ (hS 14 16 ++ (hS 16 17 ++ (hS 17 30 ++ (hS 30 37 ++ []))))) := by kernel_rfl
theorem runAll : topRun treeTable hP w 11 (some (.ref 6)) 2081 ⟨boot_heap w.params, #[], boot_drawn, boot_toks, os⟩ (topStub hP) = some (st8 hpF w.params 652 os) := by
  refine go_top (N := 2069) (r0 w os) ?_
  refine piece_block (n := 1) (N := 2068) (r1 w os) ?_
  rw [hSall]
  refine piece_app (n := 386) (N := 1682) (rA w os) ?_
  refine piece_app (n := 671) (N := 1011) (rB w os) ?_
  refine piece_app (n := 36) (N := 975) (rC w os) ?_
  refine piece_app (n := 376) (N := 599) (rD w os) ?_
  refine piece_app (n := 375) (N := 224) (rE w os) ?_
  refine piece_app (n := 222) (N := 2) (rF w os) ?_
  exact piece_nil (rG w os)
end
noncomputable def vw : Program := { hP with main := { hP.main with body := hP.main.body.take 11 ++ ((hP.main.body.drop 12).take 3 ++ ((hP.main.body.drop 16).take 4 ++ ((hP.main.body.drop 21).take 3 ++ hP.main.body.drop 25))) } }
abbrev rwL := PySem.Challenge.rw_nm0135_01
noncomputable abbrev Xt : Shared → Bool := fun s => xlAt vw [] s && recOk (RowW.records rwL.row.toRowW) s
noncomputable def Hk : Hook := kHook KF kas (fun _ => by kernel_rfl)
theorem looks : ∀ w : World, (fun os => ((staticsOk (importedModules hP.main.body) (boot_heap w.params) (hpF w.params) && namesBound hP (hpF w.params) && gensDone ⟨hpF w.params, #[], {}, 652, os⟩ && laidKept (boot_heap w.params) (hpF w.params)),
    openSeen vw [Str.ofString "Piece"] (importedModules hP.main.body) Xt true ⟨hpF w.params, #[], {}, 652, os⟩, Hk.obs ⟨hpF w.params, #[], {}, 652, os⟩)) = fun _ => (true, openGood vw [Str.ofString "Piece"], Hk.val w) := fun w => by kernel_rfl
theorem left : LeftO rwL.row.prog vw [Str.ofString "Piece"] Xt Hk.obs Hk.val 4246 :=
  LeftO.of_pieces (m₀ := 11) (ann := some (.ref 6)) (M := 2081) (boot_open (by kernel_rfl) rfl (fun _ => rfl)) (fun w => by kernel_rfl) (fun w os => runAll w os) rfl looks
theorem okL : rwL.wellSaid = true := (congrFun PySem.W.Fast.te9446332074065402090 rwL).trans (by kernel_rfl)
section
variable {prog : Program} {w : World} {A : Around} {E : Value → Shared → Prop}
variable {hb : Heap} {s0 : Shared} {mods : List Addr} {g0 : FH} {env : Env} {ns : List Str} {vs : List (Option Value)} {led : Led} {g : FH} {s s' : Shared}

theorem S.fz (σ : S hb s0 mods g0 env ns vs led g s) : Frz hb g s := ⟨fun a o h => σ.ggr _ _ (σ.hbg _ _ h), σ.gin⟩
theorem S.gl (σ : S hb s0 mods g0 env ns vs led g s) {a : Addr} {P : Obj → Prop} (h : Mem led a P) : g a = none := (σ.out a (.tail _ (List.mem_map.mpr ⟨_, h.mem, rfl⟩))).1
noncomputable def RV (Q : Value → Shared → Prop) (E : Value → Shared → Prop) : Result → Shared → Prop := fun r s' => match r with | .ok (.ret v) => Q v s' | .ok _ => False | .error e => E e s'
theorem w_call {f : Value} {pos : List Value} {Q : Value → Shared → Prop} (h : codeAny (model prog w) A (.call f ⟨pos, []⟩) (RV Q E) s) : wpAny (model prog w) A (call f pos) Q E s := wpAny_call h
theorem rv {v : Value} {Q : Value → Shared → Prop} (h : Q v s) : RV Q E (.ok (.ret v)) s := h
theorem i_fdiv (σ : S hb s0 mods g0 env ns vs led g s) {i j a b} {Q : Value → Shared → Prop} (hj : j ≠ 0) (hs : j.natAbs < 1073741824) (h : ∀ t s', S hb s0 mods g0 env ns vs led g s' → Q (.int (i.fdiv j) t) s') :
    wpAny (model prog w) A (binaryOp .FloorDiv (.int i a) (.int j b)) Q E s := floordiv_int hj (h _ _ σ.toks) (.inl (PyProof.noPylong_small hs))
theorem i_neg (σ : S hb s0 mods g0 env ns vs led g s) {i a} {Q : Value → Shared → Prop} (h : ∀ t s', S hb s0 mods g0 env ns vs led g s' → Q (.int (-i) t) s') : wpAny (model prog w) A (unaryOp .USub (.int i a)) Q E s :=
  neg_int (h _ _ σ.toks)
theorem c_le {i j a b} {Q : Value → Shared → Prop} (h : Q (.bool (decide (i ≤ j))) s) : wpAny (model prog w) A (compareOp .LtE (.int i a) (.int j b)) Q E s := le_int h
theorem c_ge {i j a b} {Q : Value → Shared → Prop} (h : Q (.bool (decide (j ≤ i))) s) : wpAny (model prog w) A (compareOp .GtE (.int i a) (.int j b)) Q E s := ge_int h
theorem c_ne {i j a b} {Q : Value → Shared → Prop} (h : Q (.bool (!decide (i = j))) s) : wpAny (model prog w) A (compareOp .NotEq (.int i a) (.int j b)) Q E s :=
  ne_int (by have : (i != j) = !decide (i = j) := by simp [bne]; rfl
             rw [this]; exact h)
theorem c_in_ints {i a : _} {t : Addr} {l : List Value} {is : List Int} {Q : Value → Shared → Prop} (ht : HT s t l) (hi : IntsAre l is) (h : Q (.bool (is.any (· == i))) s) :
    wpAny (model prog w) A (compareOp .In (.int i a) (.ref t)) Q E s := in_tuple_ints ht.isTup hi h

noncomputable abbrev kNx (P : Shared → Prop) : Flow → Shared → Prop := fun f s' => f = .next ∧ P s'
theorem xs_ifj {test body orelse pos rest} {Q : Flow → Shared → Prop} (P : Shared → Prop)
    (h : wpAny (model prog w) A (isTrue test env (eval test env)) (kIf prog w A E env body orelse (kNx P)) E s)
    (k : ∀ s', P s' → wpAny (model prog w) A (execs rest env) Q E s') : wpAny (model prog w) A (execs (.If test body orelse pos :: rest) env) Q E s :=
  xs_if (wpAny_mono h (fun b s' q => ⟨fun e => wpAny_mono (q.1 e) (fun f s'' q => by rw [q.1]; exact k _ q.2) fun _ _ q => q, fun e => wpAny_mono (q.2 e) (fun f s'' q => by rw [q.1]; exact k _ q.2) fun _ _ q => q⟩) fun _ _ q => q)

theorem xs_ifk {test body orelse pos rest} {Q : Flow → Shared → Prop} (P : Shared → Prop)
    (h : ∀ T : Shared → Prop, (∀ s', P s' → T s') → wpAny (model prog w) A (isTrue test env (eval test env)) (kIf prog w A E env body orelse (kNx T)) E s)
    (k : ∀ s', P s' → wpAny (model prog w) A (execs rest env) Q E s') : wpAny (model prog w) A (execs (.If test body orelse pos :: rest) env) Q E s := xs_ifj P (h P fun _ q => q) k
theorem xs_ifjS (σ : S hb s0 mods g0 env ns vs led g s) {test body orelse pos rest} {Q : Flow → Shared → Prop}
    (h : wpAny (model prog w) A (isTrue test env (eval test env)) (kIf prog w A E env body orelse (kNx fun s' => ∃ g', GLe g g' ∧ S hb s0 mods g0 env ns vs led g' s')) E s)
    (k : ∀ s' g', GLe g g' → S hb s0 mods g0 env ns vs led g' s' → wpAny (model prog w) A (execs rest env) Q E s') : wpAny (model prog w) A (execs (.If test body orelse pos :: rest) env) Q E s :=
  xs_ifj _ h fun s' ⟨g', p, q⟩ => k s' g' p q
theorem xs_ifjV (σ : S hb s0 mods g0 env ns vs led g s) (x : Str) (P : Value → Prop) {vf : Value → List (Option Value)} {test body orelse pos rest} {Q : Flow → Shared → Prop} (hf : ∀ v, Put ns vs x v (vf v))
    (h : wpAny (model prog w) A (isTrue test env (eval test env)) (kIf prog w A E env body orelse (kNx fun s' => ∃ v g', GLe g g' ∧ P v ∧ S hb s0 mods g0 env ns (vf v) led g' s')) E s)
    (k : ∀ v s' g', GLe g g' → P v → S hb s0 mods g0 env ns (vf v) led g' s' → wpAny (model prog w) A (execs rest env) Q E s') : wpAny (model prog w) A (execs (.If test body orelse pos :: rest) env) Q E s :=
  xs_ifj _ h fun s' ⟨v, g', p, p', q⟩ => k v s' g' p p' q
theorem sp_t {X Y : Prop} (h : X) : (true = true → X) ∧ (true = false → Y) := ⟨fun _ => h, fun e => nomatch e⟩
theorem sp_f {X Y : Prop} (h : Y) : (false = true → X) ∧ (false = false → Y) := ⟨fun e => (nomatch e), fun _ => h⟩
theorem sp_d {C : Prop} [Decidable C] {X Y : Prop} (h1 : C → X) (h2 : ¬ C → Y) : (decide C = true → X) ∧ (decide C = false → Y) := ⟨fun e => h1 (of_decide_eq_true e), fun e => h2 (of_decide_eq_false e)⟩
theorem sp_n {b : Bool} {X Y : Prop} (h : (b = true → Y) ∧ (b = false → X)) : ((!b) = true → X) ∧ ((!b) = false → Y) := by cases b; exact ⟨fun _ => h.2 rfl, fun e => (nomatch e)⟩; exact ⟨fun e => (nomatch e), fun _ => h.1 rfl⟩
theorem t_by (_σ : S hb s0 mods g0 env ns vs led g s) (C : Prop) {test : Expr} {whole : Sem Value} {Q : Bool → Shared → Prop}
    (h : wpAny (model prog w) A (isTrue test env whole) (fun b s' => (b = true ↔ C) ∧ ∃ g', GLe g g' ∧ S hb s0 mods g0 env ns vs led g' s') E s)
    (k1 : ∀ s' g', C → GLe g g' → S hb s0 mods g0 env ns vs led g' s' → Q true s') (k2 : ∀ s' g', ¬ C → GLe g g' → S hb s0 mods g0 env ns vs led g' s' → Q false s') : wpAny (model prog w) A (isTrue test env whole) Q E s :=
  wpAny_mono h (fun b s' ⟨e, g', le, σ⟩ => by
    cases b with
    | true => exact k1 s' g' (e.mp rfl) le σ
    | false => exact k2 s' g' (fun c => nomatch e.mpr c) le σ) fun _ _ q => q
theorem if_by (σ : S hb s0 mods g0 env ns vs led g s) (C : Prop) {test body orelse pos rest} {Q : Flow → Shared → Prop}
    (h : wpAny (model prog w) A (isTrue test env (eval test env)) (fun b s' => (b = true ↔ C) ∧ ∃ g', GLe g g' ∧ S hb s0 mods g0 env ns vs led g' s') E s)
    (k1 : ∀ s' g', C → GLe g g' → S hb s0 mods g0 env ns vs led g' s' → wpAny (model prog w) A (execs body env) (Seq prog w A E rest env Q) E s')
    (k2 : ∀ s' g', ¬ C → GLe g g' → S hb s0 mods g0 env ns vs led g' s' → wpAny (model prog w) A (execs orelse env) (Seq prog w A E rest env Q) E s') :
    wpAny (model prog w) A (execs (.If test body orelse pos :: rest) env) Q E s :=
  xs_if (t_by σ C h (fun s' g' c le σ => ⟨fun _ => k1 s' g' c le σ, fun e => nomatch e⟩) (fun s' g' c le σ => ⟨fun e => (nomatch e), fun _ => k2 s' g' c le σ⟩))
theorem S.grownOf (σ : S hb s0 mods g0 env ns vs led g s) : Grown g0 s0 g s := ⟨σ.gin, σ.ggr, σ.gnew⟩
theorem ix_list {value slice : Expr} {a : Addr} {l : List Value} {k : Int} {u : Tok} {x : Value} {Q : Value → Shared → Prop} (hl : HL s a l) (h0 : 0 ≤ k) (hfit : k < 2 ^ 63) (hx : l[k.toNat]? = some x) (h : Q x s)
    (hs : subscripted slice false (.ref a) (.int k u) = operate [.ref a, .int k u] (getItem (.ref a) (.int k u)) := by with_unfolding_all rfl) : wpAny (model prog w) A (subscriptTail value slice (.ref a) (.int k u)) Q E s :=
  tail_any hl.there.1 PySem.F.slot_list_getitem.lookup (wpAny_getItem_list hl.isList h0 hfit (by simpa using hx) h) hs
theorem ix_list_neg {value slice : Expr} {a : Addr} {l : List Value} {k : Int} {u : Tok} {x : Value} {Q : Value → Shared → Prop} (hl : HL s a l) (h0 : k < 0) (h1 : -(l.length : Int) ≤ k) (hfit : -(2 ^ 63) ≤ k) (hx : l[(k + l.length).toNat]? = some x) (h : Q x s)
    (hs : subscripted slice false (.ref a) (.int k u) = operate [.ref a, .int k u] (getItem (.ref a) (.int k u)) := by with_unfolding_all rfl) : wpAny (model prog w) A (subscriptTail value slice (.ref a) (.int k u)) Q E s :=
  tail_any hl.there.1 PySem.F.slot_list_getitem.lookup (wpAny_getItem_list_neg hl.isList h0 (by simpa using h1) hfit (by simpa using hx) h) hs
theorem ix_tuple {value slice : Expr} {a : Addr} {l : List Value} {k : Int} {u : Tok} {x : Value} {Q : Value → Shared → Prop} (hl : HT s a l) (h0 : 0 ≤ k) (hfit : k < 2 ^ 63) (hx : l[k.toNat]? = some x) (h : Q x s)
    (hs : subscripted slice false (.ref a) (.int k u) = operate [.ref a, .int k u] (getItem (.ref a) (.int k u)) := by with_unfolding_all rfl) : wpAny (model prog w) A (subscriptTail value slice (.ref a) (.int k u)) Q E s := by
  have hlt : k.toNat < l.length := by
    rcases Nat.lt_or_ge k.toNat l.length with q | q
    · exact q
    · rw [List.getElem?_eq_none q] at hx; cases hx
  exact item_tupleT hl.isTup (by lia) hfit (j := k.toNat) (seq_at h0 hlt) hx h hs
noncomputable def IsD {K : Type} [DecidableEq K] (knd : KeyKind prog w K) (kvs : List (K × Value)) (o : Obj) : Prop := o.IsDictOf knd kvs
section
variable {K : Type} [DecidableEq K] {knd : KeyKind prog w K}
noncomputable def HD (knd : KeyKind prog w K) (s : Shared) (d : Addr) (kvs : List (K × Value)) : Prop := s.heap.DictOf knd d kvs
theorem S.HD (σ : S hb s0 mods g0 env ns vs led g s) {d : Addr} {kvs : List (K × Value)} (h : Mem led d (IsD knd kvs)) : HD knd s d kvs := let ⟨o, e, i⟩ := σ.get h; Heap.dictOf_iff.mpr ⟨o, e, i⟩
theorem S.modD (σ : S hb s0 mods g0 env ns vs led g s) {d : Addr} {kvs kvs' : List (K × Value)} {led' : Led} (u : Upd led d (IsD knd kvs) (IsD knd kvs') led') (x : Ext [d] s s') (h : Mine.HD knd s' d kvs') : S hb s0 mods g0 env ns vs led' g s' :=
  let ⟨_, e, i⟩ := Heap.dictOf_iff.mp h; σ.mod u x e i

theorem ix_dict (σ : S hb s0 mods g0 env ns vs led g s) {value slice : Expr} {d : Addr} {k : K} {key v : Value} {kvs : List (K × Value)} {Q : Value → Shared → Prop} (hd : HD knd s d kvs) (hk : knd.is k key = true) (hv : valueAt kvs k = some v)
    (h : ∀ s', S hb s0 mods g0 env ns vs led g s' → Q v s')
    (hs : subscripted slice false (.ref d) key = operate [.ref d, key] (getItem (.ref d) key) := by with_unfolding_all rfl) : wpAny (model prog w) A (subscriptTail value slice (.ref d) key) Q E s :=
  tail_any (Heap.DictOf.typeIs hd) slot_dict_getitem.lookup (wpAny_getItem_of hk (Heap.DictOf.mapOf hd) hv (h _ σ.toks)) hs
theorem st_dict {d : Addr} {k : K} {key v : Value} {kvs : List (K × Value)} {Q : Unit → Shared → Prop} (hd : HD knd s d kvs) (hk : knd.is k key = true) (hsz : kvs.length ≤ sizeLine)
    (h : ∀ s', Ext [d] s s' → HD knd s' d (stored kvs k v) → Q () s') : wpAny (model prog w) A (setItem (.ref d) key v) Q E s :=
  wpAny_setItem_pairs hk hd (fun h' hd' hs => h _ (.same hs (by obtain ⟨o, e, _⟩ := Heap.dictOf_iff.mp hd'; rw [e]; exact Option.some_ne_none _)) hd') hsz
end

noncomputable abbrev kIn (prog : Program) (w : World) (A : Around) (E : Value → Shared → Prop) (ts : List (Value → Sem Unit)) (xs : List Value) (Q : Unit → Shared → Prop) : Unit → Shared → Prop := fun _ s' => wpAny (model prog w) A (assignInOrder ts xs) Q E s'
noncomputable abbrev kSw2 (prog : Program) (w : World) (A : Around) (E : Value → Shared → Prop) (env : Env) (ts : List (Value → Sem Unit)) (rest : List Stmt) (Q : Flow → Shared → Prop) : List Value → Shared → Prop := fun items s' => wpAny (model prog w) A (assignInOrder ts items.reverse) (kRest prog w A E env rest Q) E s'
noncomputable abbrev kSw1 (prog : Program) (w : World) (A : Around) (E : Value → Shared → Prop) (env : Env) (n : Nat) (ts : List (Value → Sem Unit)) (rest : List Stmt) (Q : Flow → Shared → Prop) : Value → Shared → Prop := fun v s' => wpAny (model prog w) A (unpackItems v n none) (kSw2 prog w A E env ts rest Q) E s'
noncomputable abbrev kAsg (prog : Program) (w : World) (A : Around) (E : Value → Shared → Prop) (env : Env) (t : Expr) (rest : List Stmt) (Q : Flow → Shared → Prop) : Value → Shared → Prop := fun v s' => wpAny (model prog w) A (assign t env v) (kRest prog w A E env rest Q) E s'
theorem assigns_nil {Q : Unit → Shared → Prop} (h : Q () s) : wpAny (model prog w) A (assignInOrder [] []) Q E s := wpAny_assignInOrder_none h
theorem assigns_bind {x : Str} {v : Value} {ts : List (Value → Sem Unit)} {xs : List Value} {Q : Unit → Shared → Prop}
    (h : wpAny (model prog w) A (storeName env x v) (kIn prog w A E ts xs Q) E s) : wpAny (model prog w) A (assignInOrder (bindName env x :: ts) (v :: xs)) Q E s :=
  wpAny_assignInOrder_more (wpAny_bindName h)
theorem assigns_name {x : Str} {pos : Pos} {v : Value} {ts : List (Value → Sem Unit)} {xs : List Value} {Q : Unit → Shared → Prop}
    (h : wpAny (model prog w) A (storeName env x v) (kIn prog w A E ts xs Q) E s) : wpAny (model prog w) A (assignInOrder (assign (.Name x pos) env :: ts) (v :: xs)) Q E s :=
  wpAny_assignInOrder_more (wpAny_assign_Name h)
theorem assigns_rev2 {a b : Value} {ts : List (Value → Sem Unit)} {Q : Unit → Shared → Prop} (h : wpAny (model prog w) A (assignInOrder ts [b, a]) Q E s) : wpAny (model prog w) A (assignInOrder ts [a, b].reverse) Q E s := h
theorem assigns_rev3 {a b c : Value} {ts : List (Value → Sem Unit)} {Q : Unit → Shared → Prop} (h : wpAny (model prog w) A (assignInOrder ts [c, b, a]) Q E s) : wpAny (model prog w) A (assignInOrder ts [a, b, c].reverse) Q E s := h
theorem unpack_tup (σ : S hb s0 mods g0 env ns vs led g s) (hh : A.handled = none) {t : Addr} {l : List Value} {n : Nat} {Q : List Value → Shared → Prop} (ht : HT s t l) (hn : n = l.length)
    (h : ∀ s', S hb s0 mods g0 env ns vs led g s' → Q l s') : wpAny (model prog w) A (unpackItems (.ref t) n none) Q E s := by
  have := unpackItems_tuple (prog := prog) (w := w) (A := A) (E := E) (Q := Q) hh ht.isTup (fun h' hx => h _ (σ.grow (.but hx)))
  rw [hn]; simpa using this

theorem not_star {v : Expr} (h : ∀ e p, v ≠ .Starred e p) : (match (generalizing := false) v with | .Starred .. => true | _ => false) = false := by
  cases v <;> first | rfl | exact (h _ _ rfl).elim
theorem name_in (he : EnvOk env ns) {p : Pos} {z : Str} {pz : Pos} (hz : z ∈ ns) (hl : p.line = pz.line) : (if (env.kindOf z == some .local && pz.line == p.line) = true then some z else none) = some z :=
  if_pos (by simp [he.names z hz, hl])
theorem fm2 {f : Expr → Option Str} {a b : Expr} {x y : Str} (h : f a = some x) (h' : f b = some y) : [a, b].filterMap f = [x, y] := by rw [List.filterMap_cons_some h, List.filterMap_cons_some h']; rfl
theorem fm3 {f : Expr → Option Str} {a b c : Expr} {x y z : Str} (h : f a = some x) (h' : f b = some y) (h'' : f c = some z) : [a, b, c].filterMap f = [x, y, z] := by rw [List.filterMap_cons_some h, fm2 h' h'']
theorem ed2 {x y : Str} (h : x ≠ y) : [x, y].eraseDups = [x, y] := by simp [List.eraseDups_cons, Ne.symm h]
theorem ed3 {x y z : Str} (h : x ≠ y) (h' : x ≠ z) (h'' : y ≠ z) : [x, y, z].eraseDups = [x, y, z] := by simp [List.eraseDups_cons, Ne.symm h, Ne.symm h', Ne.symm h'']
theorem bk_of (he : EnvOk env ns) : env.blockKind = .function := by unfold Env.blockKind; rw [he.kind]; rfl
theorem swapped2 (he : EnvOk env ns) {x y : Str} {p q tp : Pos} {k k' : Nat} {v1 v2 : Expr} {vp : Pos} (hx : x ∈ ns) (hy : y ∈ ns) (hne : x ≠ y) (hl : p.line = q.line)
    (h1 : ∀ e p, v1 ≠ .Starred e p) (h1' : ∀ e p, v2 ≠ .Starred e p) (h2 : [v1, v2].all (foldedForSure 8) = false) (h3 : [v1, v2].all (constantsAlone 8) = false) :
    swappedStores [.Tuple [.Name x p, .Name y q] k tp] (.Tuple [v1, v2] k' vp) env = pure (some [x, y]) := by
  unfold swappedStores
  dsimp only
  rw [bk_of he]
  refine (if_neg Bool.false_ne_true).trans ?_
  refine (if_neg (by
    rw [Bool.not_eq_true]
    exact Bool.or_eq_false_iff.mpr ⟨not_star h1, Bool.or_eq_false_iff.mpr ⟨not_star h1', rfl⟩⟩)).trans ?_
  rw [fm2 (name_in (p := p) he hx rfl) (name_in he hy hl), ed2 hne]
  refine (if_neg Bool.false_ne_true).trans ?_
  rw [h2, h3]
  rfl
theorem swapped3 (he : EnvOk env ns) {x y z : Str} {p q r tp : Pos} {k k' : Nat} {v1 v2 v3 : Expr} {vp : Pos} (hx : x ∈ ns) (hy : y ∈ ns) (hz : z ∈ ns) (hne : x ≠ y) (hne2 : x ≠ z) (hne3 : y ≠ z) (hl : p.line = q.line) (hl2 : p.line = r.line)
    (h1 : ∀ e p, v1 ≠ .Starred e p) (h1' : ∀ e p, v2 ≠ .Starred e p) (h1'' : ∀ e p, v3 ≠ .Starred e p) (h2 : [v1, v2, v3].all (foldedForSure 8) = false) (h3 : [v1, v2, v3].all (constantsAlone 8) = false) :
    swappedStores [.Tuple [.Name x p, .Name y q, .Name z r] k tp] (.Tuple [v1, v2, v3] k' vp) env = pure (some [x, y, z]) := by
  unfold swappedStores
  dsimp only
  rw [bk_of he]
  refine (if_neg Bool.false_ne_true).trans ?_
  refine (if_neg (by
    rw [Bool.not_eq_true]
    exact Bool.or_eq_false_iff.mpr ⟨not_star h1, Bool.or_eq_false_iff.mpr ⟨not_star h1', Bool.or_eq_false_iff.mpr ⟨not_star h1'', rfl⟩⟩⟩)).trans ?_
  rw [fm3 (name_in (p := p) he hx rfl) (name_in he hy hl) (name_in he hz hl2), ed3 hne hne2 hne3]
  refine (if_neg Bool.false_ne_true).trans ?_
  rw [h2, h3]
  rfl

theorem xs_swap2 (σ : S hb s0 mods g0 env ns vs led g s) {x y : Str} {p q tp pos : Pos} {k k' : Nat} {v1 v2 : Expr} {vp : Pos} {rest : List Stmt} {Q : Flow → Shared → Prop} (hx : x ∈ ns) (hy : y ∈ ns) (hne : x ≠ y) (hl : p.line = q.line)
    (h1 : ∀ e p, v1 ≠ .Starred e p) (h1' : ∀ e p, v2 ≠ .Starred e p) (h2 : [v1, v2].all (foldedForSure 8) = false) (h3 : [v1, v2].all (constantsAlone 8) = false)
    (h : wpAny (model prog w) A (eval (.Tuple [v1, v2] k' vp) env) (kSw1 prog w A E env 2 [bindName env y, bindName env x] rest Q) E s)
    (hs : swapsWithSole [.Tuple [.Name x p, .Name y q] k tp] (.Tuple [v1, v2] k' vp) pos.line env = pure false := by with_unfolding_all rfl) :
    wpAny (model prog w) A (execs (.Assign [.Tuple [.Name x p, .Name y q] k tp] (.Tuple [v1, v2] k' vp) pos :: rest) env) Q E s :=
  wpAny_execs_cons (Assign_Tuple_swapped (names := [x, y]) h hs (swapped2 σ.eok hx hy hne hl h1 h1' h2 h3))
theorem xs_swap3 (σ : S hb s0 mods g0 env ns vs led g s) {x y z : Str} {p q r tp pos : Pos} {k k' : Nat} {v1 v2 v3 : Expr} {vp : Pos} {rest : List Stmt} {Q : Flow → Shared → Prop} (hx : x ∈ ns) (hy : y ∈ ns) (hz : z ∈ ns) (hne : x ≠ y) (hne2 : x ≠ z) (hne3 : y ≠ z) (hl : p.line = q.line) (hl2 : p.line = r.line)
    (h1 : ∀ e p, v1 ≠ .Starred e p) (h1' : ∀ e p, v2 ≠ .Starred e p) (h1'' : ∀ e p, v3 ≠ .Starred e p) (h2 : [v1, v2, v3].all (foldedForSure 8) = false) (h3 : [v1, v2, v3].all (constantsAlone 8) = false)
    (h : wpAny (model prog w) A (eval (.Tuple [v1, v2, v3] k' vp) env) (kSw1 prog w A E env 3 [bindName env z, bindName env y, bindName env x] rest Q) E s)
    (hs : swapsWithSole [.Tuple [.Name x p, .Name y q, .Name z r] k tp] (.Tuple [v1, v2, v3] k' vp) pos.line env = pure false := by with_unfolding_all rfl) :
    wpAny (model prog w) A (execs (.Assign [.Tuple [.Name x p, .Name y q, .Name z r] k tp] (.Tuple [v1, v2, v3] k' vp) pos :: rest) env) Q E s :=
  wpAny_execs_cons (Assign_Tuple_swapped (names := [x, y, z]) h hs (swapped3 σ.eok hx hy hz hne hne2 hne3 hl hl2 h1 h1' h1'' h2 h3))
theorem as_tuple2 (σ : S hb s0 mods g0 env ns vs led g s) (hh : A.handled = none) {t1 t2 : Expr} {k tp} {t : Addr} {l : List Value} {Q : Unit → Shared → Prop} (ht : HT s t l) (hn : l.length = 2)
    (h : ∀ s', S hb s0 mods g0 env ns vs led g s' → wpAny (model prog w) A (assignInOrder [assign t1 env, assign t2 env] l) Q E s')
    (he : assignEach [t1, t2] env = [(false, assign t1 env), (false, assign t2 env)] := by with_unfolding_all rfl) : wpAny (model prog w) A (assign (.Tuple [t1, t2] k tp) env (.ref t)) Q E s :=
  wpAny_assign_Tuple hh ht.isTuple (by rw [he]; simp [hn]) (by rw [he]; rfl) (fun h' hx => by rw [he]; exact h _ (σ.grow (.but hx)))
theorem as_tuple3 (σ : S hb s0 mods g0 env ns vs led g s) (hh : A.handled = none) {t1 t2 t3 : Expr} {k tp} {t : Addr} {l : List Value} {Q : Unit → Shared → Prop} (ht : HT s t l) (hn : l.length = 3)
    (h : ∀ s', S hb s0 mods g0 env ns vs led g s' → wpAny (model prog w) A (assignInOrder [assign t1 env, assign t2 env, assign t3 env] l) Q E s')
    (he : assignEach [t1, t2, t3] env = [(false, assign t1 env), (false, assign t2 env), (false, assign t3 env)] := by with_unfolding_all rfl) : wpAny (model prog w) A (assign (.Tuple [t1, t2, t3] k tp) env (.ref t)) Q E s :=
  wpAny_assign_Tuple hh ht.isTuple (by rw [he]; simp [hn]) (by rw [he]; rfl) (fun h' hx => by rw [he]; exact h _ (σ.grow (.but hx)))
theorem xs_tup2 {t1 t2 : Expr} {k tp pos} {value : Expr} {rest : List Stmt} {Q : Flow → Shared → Prop}
    (h : wpAny (model prog w) A (eval value env) (kAsg prog w A E env (.Tuple [t1, t2] k tp) rest Q) E s)
    (hs : swapsWithSole [.Tuple [t1, t2] k tp] value pos.line env = pure false := by with_unfolding_all rfl)
    (hw : swappedStores [.Tuple [t1, t2] k tp] value env = pure none := by with_unfolding_all rfl) :
    wpAny (model prog w) A (execs (.Assign [.Tuple [t1, t2] k tp] value pos :: rest) env) Q E s := wpAny_execs_cons (Assign_Tuple h hs hw)
theorem is_none {v : Value} {Q : Value → Shared → Prop} (hp : plainIs v .none = true) (h : Q (.bool (v == .none)) s) : wpAny (model prog w) A (compareOp .Is v .none) Q E s := wpAny_is_plain hp h
theorem isnt_none {v : Value} {Q : Value → Shared → Prop} (h : Q (.bool (!(v == .none))) s) : wpAny (model prog w) A (compareOp .IsNot v .none) Q E s := isNot_none h
end
section
variable {prog : Program} {w : World} {A : Around} {E : Value → Shared → Prop}
variable {hb : Heap} {s0 : Shared} {mods : List Addr} {g0 : FH} {env : Env} {ns : List Str} {vs : List (Option Value)} {led : Led} {g : FH} {s s' : Shared}
theorem S.lose (σ : S hb s0 mods g0 env ns vs led g s) {it : Addr} {P : Obj → Prop} {led' : Led} (hp : led.Perm ((it, P) :: led')) (hf : s0.heap.get? it = none) {h' : Heap} {t : Tok} (x : Heap.ExtBut it s.heap h') :
    S hb s0 mods g0 env ns vs led' g { s with heap := h', toks := t } := by
  have nd := ((hp.map (·.1)).cons env.locals).nodup_iff.mp σ.nodup
  simp only [List.map_cons, List.nodup_cons, List.mem_cons, not_or] at nd
  have sub : ∀ a ∈ env.locals :: led'.map (·.1), a ∈ env.locals :: led.map (·.1) := fun a ha => by
    rcases List.mem_cons.mp ha with rfl | ha
    · exact .head _
    · exact .tail _ ((hp.map (·.1)).mem_iff.mpr (.tail _ ha))
  have kp : ∀ b o, b ≠ it → s.heap.get? b = some o → h'.get? b = some o := x
  refine ⟨σ.eok, ?_, fun p hp' => ?_, ?_, fun a ha => σ.out a (sub a ha), σ.hbg, fun a o e => ?_, σ.ggr, σ.gnew, ⟨fun a o e => ?_, σ.ext.gens, σ.ext.drawn, σ.ext.os⟩⟩
  · obtain ⟨o, es, ep, e, r⟩ := σ.nsl
    exact ⟨o, es, ep, kp _ _ (fun q => nd.1.1 q) e, r⟩
  · obtain ⟨o, e, q⟩ := σ.lok p (hp.mem_iff.mpr (.tail _ hp'))
    exact ⟨o, kp _ _ (fun z => nd.2.1 (z ▸ List.mem_map.mpr ⟨p, hp', rfl⟩)) e, q⟩
  · simp only [List.nodup_cons]; exact ⟨nd.1.2, nd.2.2⟩
  · refine kp a o (fun z => ?_) (σ.gin a o e)
    have hm : it ∈ env.locals :: led.map (·.1) := .tail _ ((hp.map (·.1)).mem_iff.mpr (.head _))
    rw [z, (σ.out it hm).1] at e; cases e
  · have ne : a ≠ it := fun z => by rw [z, hf] at e; cases e
    rcases σ.ext.keep a o e with q | q
    · refine .inl ⟨q.1, fun z => ?_⟩
      cases y : s.heap.get? a with
      | none => exact q.2 y
      | some o' => have := kp a o' ne y; rw [show h'.get? a = none from z] at this; cases this
    · exact .inr (kp a o ne q)

noncomputable def IsLI (l : Addr) (i : Nat) (o : Obj) : Prop := o.cls = .type "list_iterator" ∧ o.data = .fields #[.ref l, .int i 0]
noncomputable def Turn (I : Shared → Prop) (Q : Flow → Shared → Prop) (f : Flow) (s : Shared) : Prop := match f with
  | .next => I s
  | .cont => I s
  | .brk => Q .next s
  | .ret v => Q (.ret v) s
theorem turn_of {I : Shared → Prop} {Q : Flow → Shared → Prop} (f : Flow) (s : Shared) (h : Turn (fun _ => False) Q f s) : Turn I Q f s := by
  cases f with
  | next => exact h.elim
  | cont => exact h.elim
  | brk => exact h
  | ret v => exact h
theorem turn_next {I : Shared → Prop} {Q : Flow → Shared → Prop} (h : I s) : Turn I Q .next s := h

noncomputable def Looped (prog : Program) (w : World) (A : Around) (env : Env) (E : Value → Shared → Prop) (Q : Flow → Shared → Prop) : Result → Shared → Prop := fun r s' => match r with | .ok f => Q f s' | .error e => cameBackBy (model prog w) A env E e s'

noncomputable abbrev kFor2 (prog : Program) (w : World) (A : Around) (E : Value → Shared → Prop) (env : Env) (target : Expr) (body : List Stmt) (Q : Flow → Shared → Prop) : Value → Shared → Prop := fun it s' => codeAny (model prog w) A (.forLoop target it body [] env) (Looped prog w A env E Q) s'
noncomputable abbrev kFor1 (prog : Program) (w : World) (A : Around) (E : Value → Shared → Prop) (env : Env) (target : Expr) (body : List Stmt) (Q : Flow → Shared → Prop) : Value → Shared → Prop := fun x s' => wpAny (model prog w) A (pyIter x) (kFor2 prog w A E env target body Q) E s'
theorem xs_for {target iter body pos rest} {Q : Flow → Shared → Prop}
    (h : wpAny (model prog w) A (eval iter env) (kFor1 prog w A E env target body (Seq prog w A E rest env Q)) E s)
    (hs : ∀ x, foldedSetIterable iter env x = pure x := by intro _; with_unfolding_all rfl) :
    wpAny (model prog w) A (execs (.For target iter body [] pos :: rest) env) Q E s := xs_stmt (wpAny_For h hs)

theorem for_list {target : Expr} {body : List Stmt} {Q : Flow → Shared → Prop} (σ : S hb s0 mods g0 env ns vs led g s) (hA : A.handled = none) (a : Addr) (xs : List Value) (J : Nat → List (Option Value) → Led → FH → Prop)
    (hl : ∀ i vs' led' g' s', J i vs' led' g' → S hb s0 mods g0 env ns vs' led' g' s' → HL s' a xs) (h0 : J 0 vs led g)
    (turn : ∀ i v s' vs' led' g' it E' T, (∀ s₃ vs'' led'' g'', J (i + 1) vs'' led'' g'' → S hb s0 mods g0 env ns vs'' ((it, IsLI a (i + 1)) :: led'') g'' s₃ → T .next s₃) → (∀ f s₃, Turn (fun _ => False) Q f s₃ → T f s₃) → xs[i]? = some v → J i vs' led' g' → S hb s0 mods g0 env ns vs' ((it, IsLI a (i + 1)) :: led') g' s' → wpAny (model prog w) A (assign target env v) (kRest prog w A E' env body T) E' s')
    (done : ∀ s' vs' led' g', J xs.length vs' led' g' → S hb s0 mods g0 env ns vs' led' g' s' → Q .next s')
    (ht : (∃ x p, target = .Name x p) ∨ (∃ es k p, target = .Tuple es k p ∧ ∀ v ∈ xs, ∃ b, v = .ref b)) :
    wpAny (model prog w) A (pyIter (.ref a)) (kFor2 prog w A E env target body Q) E s := by
  have hls := hl 0 _ _ _ _ h0 σ
  refine wpAny_pyIter_list hls.isList ?_
  have fr : s0.heap.get? s.heap.objs.size = none := σ.ext.live (get_size _)
  have σ₁ := σ.alloc (P := IsLI a 0) (get_size _) (Ext.push (t := s.toks) (o := { cls := .type "list_iterator", data := .fields #[.ref a, .int 0 0] })) (Heap.get?_push_size _ rfl) ⟨rfl, rfl⟩
  generalize hit : s.heap.objs.size = it at *
  let I : Nat → Shared → Prop := fun n s' => ∃ i vs' led' g', n = xs.length - i ∧ i ≤ xs.length ∧ J i vs' led' g' ∧ S hb s0 mods g0 env ns vs' ((it, IsLI a i) :: led') g' s'
  refine codeAny_forLoop_any I ?_ (xs.length - 0) ⟨0, _, _, _, rfl, Nat.zero_le _, h0, σ₁⟩
  rintro n s₁ ⟨i, vs', led', g', hn, hle, hj, σ₁⟩
  obtain ⟨oi, ei, ci, di⟩ := σ₁.get .head
  have hl₁ := hl i _ _ _ _ hj (σ₁.drop (List.sublist_cons_self ..))
  cases hx : xs[i]? with
  | none =>
    refine wpAny_pyNext_list_end hA ⟨oi, ei, ci, di⟩ hl₁.isList (by simpa using hx) fun h' hk => ?_
    dsimp only
    refine wpAny_execs_nil ?_
    have hi : i = xs.length := Nat.le_antisymm hle (by simpa using hx)
    exact done _ _ _ _ (hi ▸ hj) (σ₁.lose (.refl _) fr hk)
  | some v =>
    have hlt : i < xs.length := by
      rcases Nat.lt_or_ge i xs.length with q | q
      · exact q
      · rw [List.getElem?_eq_none q] at hx; cases hx
    refine wpAny_pyNext_list_item ⟨oi, ei, ci, di⟩ hl₁.isList (x := v) (by simpa using hx) fun h' hit' hkk => ?_
    dsimp only
    obtain ⟨oi', ei', ci', di'⟩ := id hit'
    have σ₂ := σ₁.mod (P' := IsLI a (i + 1)) .head (.same (t := s₁.toks) hkk (by rw [ei']; exact Option.some_ne_none _)) ei' ⟨ci', di'⟩
    have hT : ∀ {T : Flow → Shared → Prop}, (∀ v s₃, Q (.ret v) s₃ → T (.ret v) s₃) → (∀ s₃, Q .next s₃ → T .brk s₃) → ∀ f s₃, Turn (fun _ => False) Q f s₃ → T f s₃ := fun h1 h2 f s₃ q => by
      cases f with
      | next => exact q.elim
      | cont => exact q.elim
      | brk => exact h2 _ q
      | ret v => exact h1 _ _ q
    rcases ht with ⟨x, p, rfl⟩ | ⟨es, k, p, rfl, hb⟩
    · exact wpAny_pure (turn i v _ _ _ _ it _ _ (fun s₃ vs'' led'' g'' hj' σ₃ => ⟨xs.length - (i + 1), sub_lt1 hn hlt, i + 1, _, _, _, rfl, hlt, hj', σ₃⟩) (hT (fun _ _ q => q) fun _ q => q) hx hj σ₂)
    · obtain ⟨b, rfl⟩ := hb v (List.mem_of_getElem? hx)
      exact wpAny_letOwnedTupleGo_listiter hit' (turn i _ _ _ _ _ it _ _ (fun s₃ vs'' led'' g'' hj' σ₃ => ⟨xs.length - (i + 1), sub_lt1 hn hlt, i + 1, _, _, _, rfl, hlt, hj', σ₃⟩) (hT (fun _ _ q => q) fun _ q => q) hx hj σ₂)

noncomputable def IsRI (n : Nat) (i : Nat) (o : Obj) : Prop := o = { cls := .type "range_iterator", data := .fields #[rawInt (i : Int), rawInt ((n : Int) - i), rawInt 1] }
theorem for_range {x : Str} {px : Pos} {body : List Stmt} {Q : Flow → Shared → Prop} (σ : S hb s0 mods g0 env ns vs led g s) (hA : A.handled = none) {n : Int} {tn : Tok} (J : Nat → List (Option Value) → Led → FH → Prop)
    (hn : n < 2 ^ 62) (hn0 : 0 ≤ n) (h0 : J 0 vs led g)
    (turn : ∀ i tk s' vs' led' g' it E' T, (∀ s₃ vs'' led'' g'', J (i + 1) vs'' led'' g'' → S hb s0 mods g0 env ns vs'' ((it, IsRI n.toNat (i + 1)) :: led'') g'' s₃ → T .next s₃) → (∀ f s₃, Turn (fun _ => False) Q f s₃ → T f s₃) → i < n.toNat → J i vs' led' g' → S hb s0 mods g0 env ns vs' ((it, IsRI n.toNat (i + 1)) :: led') g' s' → wpAny (model prog w) A (assign (.Name x px) env (.int i tk)) (kRest prog w A E' env body T) E' s')
    (done : ∀ s' vs' led' g', J n.toNat vs' led' g' → S hb s0 mods g0 env ns vs' led' g' s' → Q .next s') :
    wpAny (model prog w) A (call (.type "range") [.int n tn]) (kFor1 prog w A E env (.Name x px) body Q) E s := by
  refine call_range_1 ?_
  refine wpAny_pyIter_range (a := 0) (b := n) (c := 1) (t := s.toks) (u := tn) (v := s.toks + 1) (Heap.get?_push_size _ rfl) (small_one (by decide) (by decide) (by lia) hn) ?_
  have σ₀ := σ.grow (Ext.push (t := s.toks + 1 + 1) (o := { cls := .type "range", data := .fields #[.int 0 s.toks, .int n tn, .int 1 (s.toks + 1)] }))
  generalize ({ s with heap := s.heap.push { cls := .type "range", data := .fields #[.int 0 s.toks, .int n tn, .int 1 (s.toks + 1)] }, toks := s.toks + 1 + 1 } : Shared) = r₀ at *
  have fr : s0.heap.get? r₀.heap.objs.size = none := σ₀.ext.live (get_size _)
  have hsz : Builtin.Range.rangeSize 0 n 1 = (n.toNat : Int) := by rw [rangeSize_nat, Int.sub_zero]
  rw [hsz]
  have σ₁ := σ₀.alloc (P := IsRI n.toNat 0) (get_size _) (Ext.push (t := r₀.toks) (o := { cls := .type "range_iterator", data := .fields #[rawInt 0, rawInt (n.toNat : Int), rawInt 1] })) (Heap.get?_push_size _ rfl) (by unfold IsRI; simp)
  generalize r₀.heap.objs.size = it at *
  generalize r₀.heap.push { cls := .type "range_iterator", data := .fields #[rawInt 0, rawInt (n.toNat : Int), rawInt 1] } = hI at *
  let I : Nat → Shared → Prop := fun k s' => ∃ i vs' led' g', k = n.toNat - i ∧ i ≤ n.toNat ∧ J i vs' led' g' ∧ S hb s0 mods g0 env ns vs' ((it, IsRI n.toNat i) :: led') g' s'
  refine codeAny_forLoop I ?_ (n.toNat - 0) ⟨0, _, _, _, rfl, Nat.zero_le _, h0, σ₁⟩ (fun _ => rfl)
  rintro k s₁ ⟨i, vs', led', g', hk, hle, hj, σ₁⟩
  obtain ⟨oi, hit, rfl⟩ := σ₁.get .head
  by_cases hi : i = n.toNat
  · subst hi
    refine wpAny_pyNext_range_end hA hit (by lia) fun h' hx => ?_
    dsimp only
    exact wpAny_execs_nil (done _ _ _ _ hj (σ₁.lose (.refl _) fr hx))
  · have hlt : i < n.toNat := Nat.lt_of_le_of_ne hle hi
    refine wpAny_pyNext_range_item hit (by lia) fun h' hit' hx => ?_
    dsimp only
    have σ₂ := σ₁.mod (P' := IsRI n.toNat (i + 1)) .head (.same (t := s₁.toks + 1) hx (by rw [show h'.get? it = _ from hit']; exact Option.some_ne_none _)) hit' (by
      unfold IsRI
      have e1 : ((i : Int) + 1) = ((i + 1 : Nat) : Int) := by push_cast; rfl
      have e2 : (n.toNat : Int) - i - 1 = (n.toNat : Int) - ((i + 1 : Nat) : Int) := by push_cast; lia
      rw [e1, e2])
    refine turn i s₁.toks _ _ _ _ it _ _ (fun s₃ vs'' led'' g'' hj' σ₃ => ⟨n.toNat - (i + 1), sub_lt1 hk hlt, i + 1, _, _, _, rfl, hlt, hj', σ₃⟩) (fun f s₃ q => ?_) hlt hj σ₂
    cases f with
    | next => exact q.elim
    | cont => exact q.elim
    | brk => exact q
    | ret v => exact q

noncomputable abbrev kWh (prog : Program) (w : World) (A : Around) (E E' : Value → Shared → Prop) (env : Env) (body rest : List Stmt) (T Q : Flow → Shared → Prop) : Bool → Shared → Prop := fun b s₂ => (b = true → wpAny (model prog w) A (execs body env) T E' s₂) ∧ (b = false → wpAny (model prog w) A (execs rest env) Q E s₂)
theorem xs_while {test : Expr} {body : List Stmt} {pos rest} {Q : Flow → Shared → Prop} (J : Nat → Shared → Prop) (n : Nat) (h0 : J n s)
    (turn : ∀ n s E' T, (∀ f s₃, Turn (fun s₃ => ∃ m, m < n ∧ J m s₃) (Seq prog w A E rest env Q) f s₃ → T f s₃) → J n s → wpAny (model prog w) A (isTrue test env (eval test env)) (kWh prog w A E E' env body rest T Q) E' s) :
    wpAny (model prog w) A (execs (.While test body [] pos :: rest) env) Q E s := by
  refine xs_stmt (wpAny_While ?_)
  refine codeAny_whileLoop J ?_ n h0
  intro k s₁ hj
  refine wpAny_mono (turn k s₁ _ _ (fun _ _ q => q) hj) (fun b s₂ q => ?_) fun _ _ q => q
  cases b with
  | true =>
    refine wpAny_mono (q.1 rfl) (fun f s₃ q => ?_) fun _ _ q => q
    cases f <;> exact q
  | false => exact wpAny_execs_nil (q.2 rfl)

theorem S.frzL (σ : S hb s0 mods g0 env ns vs led g s) {c : Addr} {l : List Value} {led' : Led} (hp : led.Perm ((c, IsL l) :: led')) (hf : s0.heap.get? c = none) : ∃ g', GLe g g' ∧ LG g' c l ∧ S hb s0 mods g0 env ns vs led' g' s :=
  let ⟨_, h, _, σ', le⟩ := σ.frz hp hf; ⟨_, le, ⟨_, FH.put_self, h⟩, σ'⟩
theorem a_name {x : Str} {pos : Pos} {v : Value} {Q : Unit → Shared → Prop} (h : wpAny (model prog w) A (storeName env x v) Q E s) : wpAny (model prog w) A (assign (.Name x pos) env v) Q E s := wpAny_assign_Name h

theorem Upd.toMem {l : Led} {a P P' l'} (u : Upd l a P P' l') : Mem l a P := by induction u with | head => exact .head | tail _ ih => exact .tail ih
theorem k_app1 {x : Expr} {Q : Value → Shared → Prop} {a : Addr} {l : List Value} (hl : HL s a l) (h : wpAny (model prog w) A (eval x env) (kApp2 Q a) E s) : kApp1 prog w A E env x Q (.ref a) s := ⟨_, _, rfl, hl, h⟩
theorem k_app2 (σ : S hb s0 mods g0 env ns vs led g s) {Q : Value → Shared → Prop} {a : Addr} {l : List Value} {v : Value} {led' : Led} (u : Upd led a (IsL l) (IsL (l ++ [v])) led') (hsz : l.length ≤ sizeLine) (k : ∀ s', S hb s0 mods g0 env ns vs led' g s' → Q .none s') : kApp2 Q a v s :=
  ⟨_, σ.HL u.toMem, hsz, fun s' x hx => k s' (σ.modL u x hx)⟩
theorem k_pop (σ : S hb s0 mods g0 env ns vs led g s) {Q : Value → Shared → Prop} {a : Addr} {l : List Value} {y : Value} {led' : Led} (u : Upd led a (IsL (l ++ [y])) (IsL l) led') (hsz : l.length < sizeLine) (k : ∀ s', S hb s0 mods g0 env ns vs led' g s' → Q y s') : kPop Q (.ref a) s :=
  ⟨_, _, _, rfl, σ.HL u.toMem, hsz, fun s' x hx => k s' (σ.modL u x hx)⟩
theorem S.modN (σ : S hb s0 mods g0 env ns vs led g s) {ms : List Addr} {led' : Led} (hms : ∀ a ∈ ms, a ∈ led.map (·.1)) (x : Ext ms s s') (had : led'.map (·.1) = led.map (·.1))
    (hl : ∀ p ∈ led', (p ∈ led ∧ p.1 ∉ ms) ∨ ∃ o, s'.heap.get? p.1 = some o ∧ p.2 o) : S hb s0 mods g0 env ns vs led' g s' := by
  have hn := List.nodup_cons.mp σ.nodup
  have kp : ∀ b o, b ∉ ms → s.heap.get? b = some o → s'.heap.get? b = some o := fun b o hb e => (x.keep b o e).resolve_left (fun q => hb q.1)
  refine ⟨σ.eok, ?_, ?_, ?_, ?_, σ.hbg, ?_, σ.ggr, σ.gnew, ?_⟩
  · obtain ⟨o', es, ep, e', r⟩ := σ.nsl; exact ⟨o', es, ep, kp _ _ (fun q => hn.1 (hms _ q)) e', r⟩
  · intro p hp
    rcases hl p hp with ⟨h1, h2⟩ | h
    · obtain ⟨o', e', h'⟩ := σ.lok p h1; exact ⟨o', kp _ _ h2 e', h'⟩
    · exact h
  · rw [had]; exact σ.nodup
  · rw [had]; exact σ.out
  · intro b o' h'
    refine kp b o' (fun q => ?_) (σ.gin b o' h')
    rw [(σ.out b (.tail _ (hms b q))).1] at h'; cases h'
  · refine ⟨fun b o' h' => ?_, x.gens.trans σ.ext.gens, x.drawn.trans σ.ext.drawn, x.os.trans σ.ext.os⟩
    rcases σ.ext.keep b o' h' with q | q
    · exact .inl ⟨q.1, fun z => q.2 (x.live z)⟩
    · by_cases hb : b ∈ ms
      · rcases (σ.out b (.tail _ (hms b hb))).2 with z | z
        · rw [z] at h'; cases h'
        · refine .inl ⟨z, fun y => ?_⟩
          have := x.live y; rw [this] at q; cases q
      · exact .inr (kp b o' hb q)
theorem S.mod2 (σ : S hb s0 mods g0 env ns vs led g s) {a b : Addr} {P P' T T' : Obj → Prop} {led₁ led' : Led} (u : Upd led a P P' led₁) (v : Upd led₁ b T T' led') (x : Ext [a, b] s s') (ha : ∃ o, s'.heap.get? a = some o ∧ P' o) (hb' : ∃ o, s'.heap.get? b = some o ∧ T' o) :
    S hb s0 mods g0 env ns vs led' g s' := by
  have hn := List.nodup_cons.mp σ.nodup
  refine σ.modN (ms := [a, b]) (fun c hc => ?_) x (v.addrs.trans u.addrs) fun p hp => ?_
  · rcases List.mem_cons.mp hc with rfl | hc
    · exact List.mem_map.mpr ⟨_, u.mem, rfl⟩
    · rw [List.mem_singleton.mp hc, ← u.addrs]; exact List.mem_map.mpr ⟨_, v.mem, rfl⟩
  · rcases v.cases (by rw [u.addrs]; exact hn.2) p hp with rfl | ⟨h1, h2⟩
    · exact .inr hb'
    · rcases u.cases hn.2 p h1 with rfl | ⟨h3, h4⟩
      · exact .inr ha
      · exact .inl ⟨h3, by simp [h2, h4]⟩
theorem S.back (σ : S hb s0 mods g0 env ns vs led g s) {led' : Led} (σ' : S hb s0 mods g0 env ns vs led' g s') (had : led'.map (·.1) = led.map (·.1)) {g' : FH} (y : Grown g s g' s') : S hb s0 mods g0 env ns vs led' g' s' where
  eok := σ'.eok
  nsl := σ'.nsl
  lok := σ'.lok
  nodup := σ'.nodup
  out a ha := by
    refine ⟨?_, (σ'.out a ha).2⟩
    cases e : g' a with
    | none => rfl
    | some o =>
      rcases y.gnew a o e with h | h
      · rw [(σ'.out a ha).1] at h; cases h
      · obtain ⟨o', e'⟩ := σ.there (a := a) (by rw [← had]; exact ha); rw [h] at e'; cases e'
  hbg := σ.hbg
  gin := y.gin
  ggr a o h := y.ggr a o (σ.ggr a o h)
  gnew a o h := by
    rcases y.gnew a o h with h | h
    · exact σ.gnew a o h
    · exact .inr (σ.ext.live h)
  ext := σ'.ext

theorem m_extend {o x : Expr} {apos pos : Pos} {Q : Value → Shared → Prop}
    (h : wpAny (model prog w) A (eval o env) (fun ov s₁ => ∃ a l, ov = .ref a ∧ HL s₁ a l ∧ wpAny (model prog w) A (eval x env) (fun v s₂ => ∃ b l₁ l₂, v = .ref b ∧ HL s₂ a l₁ ∧ HL s₂ b l₂ ∧ l₁.length + l₂.length ≤ 100000 ∧
      ∀ s₃, Ext [a] s₂ s₃ → HL s₃ a (l₁ ++ l₂) → Q .none s₃) E s₁) E s)
    (hbase : attributeBase o "extend" env (eval o env) = eval o env := by with_unfolding_all rfl) (hline : (apos.endLine == pos.line) = true := by with_unfolding_all rfl)
    (hx : backTo pos (starEach [x] env) = [(false, eval x env)] := by with_unfolding_all rfl) :
    wpAny (model prog w) A (eval (.Call (.Attribute o "extend" apos) [x] [] pos) env) Q E s :=
  m_list1 PySem.F.slot_list_extend PySem.F.type_list_extend (wpAny_mono h (fun ov s₁ q => by
    obtain ⟨a, l, e, hl, q⟩ := q
    refine ⟨a, l, e, hl, P.extend_list (wpAny_mono q (fun v s₂ q => ?_) fun _ _ q => q)⟩
    obtain ⟨b, l₁, l₂, rfl, hl₁, hl₂, hsz, k⟩ := q
    obtain ⟨n, e⟩ := hl₁.plain
    obtain ⟨n', e'⟩ := hl₂.plain
    have u := hl₁.upd (l' := l₁ ++ l₂) (f := fun xs => xs ++ l₂.toArray) (t := s₂.toks) (by simp)
    have hs : sizeLine = 16777216 := rfl
    exact ⟨b, _, _, n, n', by simp only [List.size_toArray]; lia, by simp only [List.size_toArray]; lia, by
      simp only [List.size_toArray, Builtin.List.listTooLong]; simp; lia, rfl, e, e', k _ u.1 u.2⟩) fun _ _ q => q) hbase hline hx

theorem isnt_nn {Q : Value → Shared → Prop} (h : Q (.bool false) s) : wpAny (model prog w) A (compareOp .IsNot .none .none) Q E s := isnt_none h
theorem isnt_rn {a : Addr} {Q : Value → Shared → Prop} (h : Q (.bool true) s) : wpAny (model prog w) A (compareOp .IsNot (.ref a) .none) Q E s := isnt_none h
theorem is_nn {Q : Value → Shared → Prop} (h : Q (.bool true) s) : wpAny (model prog w) A (compareOp .Is .none .none) Q E s := is_none rfl h
theorem is_rn {a : Addr} {Q : Value → Shared → Prop} (h : Q (.bool false) s) : wpAny (model prog w) A (compareOp .Is (.ref a) .none) Q E s := is_none rfl h

noncomputable abbrev kTy (prog : Program) (w : World) (A : Around) (E : Value → Shared → Prop) (T : String) (Q : Value → Shared → Prop) : Value → Shared → Prop := fun v s' => wpAny (model prog w) A (call (.type T) [v]) Q E s'
noncomputable abbrev kBi (prog : Program) (w : World) (A : Around) (E : Value → Shared → Prop) (id : String) (Q : Value → Shared → Prop) : Value → Shared → Prop := fun v s' => wpAny (model prog w) A (call (.builtin id) [v]) Q E s'
theorem e_type1 (σ : S hb s0 mods g0 env ns vs led g s) {gs : List Str} (hG : EnvG env gs) {x : Str} {np pos : Pos} {T : String} {e : Expr} {Q : Value → Shared → Prop} (bv : BV hb x (.type T)) (hm : x ∈ gs)
    (h : wpAny (model prog w) A (eval e env) (kTy prog w A E T Q) E s)
    (he : backTo pos (starEach [e] env) = [(false, eval e env)] := by with_unfolding_all rfl) : wpAny (model prog w) A (eval (.Call (.Name x np) [e] [] pos) env) Q E s := by
  refine wpAny_Call_NameR (w_builtin σ hG bv hm ?_)
  rw [he]
  exact PyProof.Rows.callWith_type rfl (evalArgs_plain (spliced_cons (wpAny_mono h (fun v s₁ q => spliced_nil q) fun _ _ q => q)))
theorem e_bfun1 (σ : S hb s0 mods g0 env ns vs led g s) {gs : List Str} (hG : EnvG env gs) {x : Str} {np pos : Pos} {id : String} {e : Expr} {Q : Value → Shared → Prop} (bv : BV hb x (.builtin id)) (hm : x ∈ gs)
    (h : wpAny (model prog w) A (eval e env) (kBi prog w A E id Q) E s)
    (he : backTo pos (starEach [e] env) = [(false, eval e env)] := by with_unfolding_all rfl) : wpAny (model prog w) A (eval (.Call (.Name x np) [e] [] pos) env) Q E s := by
  refine wpAny_Call_NameR (w_builtin σ hG bv hm ?_)
  rw [he]
  exact callWith_builtin rfl (evalArgs_plain (spliced_cons (wpAny_mono h (fun v s₁ q => spliced_nil q) fun _ _ q => q)))
theorem k_len (σ : S hb s0 mods g0 env ns vs led g s) {a : Addr} {l : List Value} {Q : Value → Shared → Prop} (hl : HL s a l) (hs : l.length ≤ sizeLine) (h : ∀ t s', S hb s0 mods g0 env ns vs led g s' → Q (.int l.length t) s') :
    wpAny (model prog w) A (call (.builtin "len") [.ref a]) Q E s :=
  len_list hl.isList (by have : sizeLine = 16777216 := rfl; simp only [List.size_toArray]; lia) (by simpa using h _ _ σ.toks)

theorem foldl_rep (v : Value) : ∀ (k : Nat) (acc : Array Value), List.foldl (fun x1 x2 => x1 ++ x2) acc (List.replicate k #[v]) = acc ++ (List.replicate k v).toArray
  | 0, acc => by simp
  | k + 1, acc => by rw [List.replicate_succ, List.foldl_cons, foldl_rep v k]; apply Array.ext'; simp [List.replicate_succ]
theorem mul_one (σ : S hb s0 mods g0 env ns vs led g s) {a : Addr} {v : Value} {x : Int} {u : Tok} {Q : Value → Shared → Prop} (ha : HL s a [v]) (h0 : 0 ≤ x) (hx : x ≤ 100000)
    (h : ∀ c s', S hb s0 mods g0 env ns vs ((c, IsL (List.replicate x.toNat v)) :: led) g s' → s0.heap.get? c = none → Q (.ref c) s') : wpAny (model prog w) A (binaryOp .Mult (.ref a) (.int x u)) Q E s := by
  obtain ⟨k, hl⟩ := ha.plain
  refine wpAny_binaryOp_repeat_ref (T := "list") (U := "int") (by decide) ⟨_, hl, rfl⟩ (fun s' => typeIs_int s' x u) noFill_list_mul F.fills_int_mul F.slot_int_rmul repeat_list F.slot_int_index.lookup
    (call_meets F.slot_int_rmul (typeIs_int s x u) F.entry_int_rmul (F.args_int_rmul_2 _ _) (int___rmul___int_list x u a [v].toArray k)
      ⟨hl, rfl, ⟨_, hl, rfl⟩, call_meets F.slot_list_mul ⟨_, hl, rfl⟩ F.entry_list_mul (F.args_list_mul_2 _ _)
        (AutoListH.list___mul___list_int_3 a [v].toArray k x u (by simp [Builtin.List.listFitsIndex]; lia) (by simp; lia) (by simp [Builtin.List.listTooLong, sizeLine]; lia))
        ⟨hl, ?_⟩⟩)
  have q := σ.alloc (a := s.heap.objs.size) (P := IsL (List.replicate x.toNat v)) (get_size _) (Ext.push (t := s.toks) (o := { cls := .type "list", data := .seq (List.foldl (fun x1 x2 => x1 ++ x2) #[] (List.replicate (if [v].toArray.isEmpty = true then 0 else x.toNat) [v].toArray)) })) (Heap.get?_push_size _ rfl) ⟨0, by
    have := foldl_rep v x.toNat #[]
    simp only [List.isEmpty_toArray, List.isEmpty_cons, Bool.false_eq_true, if_false] 
    rw [this]; simp⟩
  exact h _ _ q (σ.ext.live (get_size _))

theorem add_lists (σ : S hb s0 mods g0 env ns vs led g s) {a b : Addr} {xs ys : List Value} {Q : Value → Shared → Prop} (ha : HL s a xs) (hb' : HL s b ys) (hs : xs.length + ys.length ≤ sizeLine)
    (h : ∀ c s', S hb s0 mods g0 env ns vs ((c, IsL (xs ++ ys)) :: led) g s' → s0.heap.get? c = none → Q (.ref c) s') : wpAny (model prog w) A (binaryOp .Add (.ref a) (.ref b)) Q E s := by
  obtain ⟨n, e⟩ := ha.plain
  obtain ⟨n', e'⟩ := hb'.plain
  refine P.add_list e e' ?_ (by simpa using hs)
  have q := σ.alloc (a := s.heap.objs.size) (P := IsL (xs ++ ys)) (get_size _) (Ext.push (t := s.toks) (o := { cls := .type "list", data := .seq (xs.toArray ++ ys.toArray) })) (Heap.get?_push_size _ rfl) ⟨0, by simp⟩
  exact h _ _ q (σ.ext.live (get_size _))
end
section
variable {prog : Program} {w : World} {A : Around} {E : Value → Shared → Prop}
variable {hb : Heap} {s0 : Shared} {mods : List Addr} {g0 : FH} {env : Env} {ns : List Str} {vs : List (Option Value)} {led : Led} {g : FH} {s s' : Shared}
noncomputable def IsFr (m : Str → Option Value) (o : Obj) : Prop := ∃ es ep, o.data = .dict es ep ∧ StrKeys es ∧ ∀ name, nsFind es name = m name
theorem ns_fr {h : Heap} {a : Addr} {m : Str → Option Value} (x : h.Ns a m) : ∃ o, h.get? a = some o ∧ IsFr m o := let ⟨o, es, ep, e, r⟩ := x; ⟨o, e, es, ep, r⟩
theorem fr_ns {h : Heap} {a : Addr} {m : Str → Option Value} {o : Obj} (e : h.get? a = some o) (x : IsFr m o) : h.Ns a m := let ⟨es, ep, r⟩ := x; ⟨o, es, ep, e, r⟩
theorem S.swap {env' : Env} {ns' : List Str} {vs' : List (Option Value)} {led₀ : Led} (σ : S hb s0 mods g0 env ns vs led₀ g s) (ok : EnvOk env' ns') (hp : led₀.Perm ((env'.locals, IsFr (fm ns' vs')) :: led)) : S hb s0 mods g0 env' ns' vs' ((env.locals, IsFr (fm ns vs)) :: led) g s := by
  have nd := ((hp.map (·.1)).cons env.locals).nodup_iff.mp σ.nodup
  simp only [List.map_cons, List.nodup_cons, List.mem_cons, not_or] at nd
  have sub : ∀ a, (a = env.locals ∨ a = env'.locals ∨ a ∈ led.map (·.1)) → a ∈ env.locals :: led₀.map (·.1) := fun a ha => by
    rcases ha with rfl | rfl | ha
    · exact .head _
    · exact .tail _ ((hp.map (·.1)).mem_iff.mpr (.head _))
    · exact .tail _ ((hp.map (·.1)).mem_iff.mpr (.tail _ ha))
  refine ⟨ok, ?_, ?_, ?_, ?_, σ.hbg, σ.gin, σ.ggr, σ.gnew, σ.ext⟩
  · obtain ⟨o, e, h⟩ := σ.lok _ (hp.mem_iff.mpr (.head _)); exact fr_ns e h
  · intro p hp'
    rcases List.mem_cons.mp hp' with rfl | hp'
    · exact ns_fr σ.nsl
    · exact σ.lok p (hp.mem_iff.mpr (.tail _ hp'))
  · simp only [List.map_cons, List.nodup_cons, List.mem_cons, not_or]
    exact ⟨⟨fun e => nd.1.1 e.symm, nd.2.1⟩, nd.1.2, nd.2.2⟩
  · intro a ha
    simp only [List.map_cons, List.mem_cons] at ha
    exact σ.out a (sub a (by rcases ha with h | h | h; exact .inr (.inl h); exact .inl h; exact .inr (.inr h)))
noncomputable def IsC (v : Option Value) (o : Obj) : Prop := o.data = .cell v
structure EC (env : Env) (x : Str) (c : Addr) : Prop where
  kind : env.kindOf x = some .cell
  at_ : env.cells.lookup x = some c
  debug : (x == ("__debug__" : Str)) = false
theorem S.cell (σ : S hb s0 mods g0 env ns vs led g s) {c : Addr} {v : Option Value} (h : Mem led c (IsC v)) : s.heap.IsCell c v := let ⟨o, e, i⟩ := σ.get h; ⟨o, e, i⟩
theorem w_cell {M : Model} (σ : S hb s0 mods g0 env ns vs led g s) {x : Str} {c : Addr} {v : Value} {pos : Pos} {Q : Value → Shared → Prop} (ec : EC env x c) (m : Mem led c (IsC (some v))) (h : Q v s) : wpAny M A (eval (.Name x pos) env) Q E s :=
  wpAny_Name (wpAny_loadName_cell σ.eok.kind ec.kind ec.at_ (σ.cell m) h) ec.debug
theorem w_cellN {M : Model} (σ : S hb s0 mods g0 env ns vs led g s) {x : Str} {c : Addr} {v : Value} {Q : Value → Shared → Prop} (ec : EC env x c) (m : Mem led c (IsC (some v))) (h : Q v s) : wpAny M A (loadName env x) Q E s :=
  wpAny_loadName_cell σ.eok.kind ec.kind ec.at_ (σ.cell m) h
theorem w_storec {M : Model} (σ : S hb s0 mods g0 env ns vs led g s) {x : Str} {c : Addr} {u : Option Value} {v : Value} {led' : Led} {Q : Unit → Shared → Prop} (ec : EC env x c) (up : Upd led c (IsC u) (IsC (some v)) led')
    (h : ∀ s', S hb s0 mods g0 env ns vs led' g s' → Q () s') : wpAny M A (storeName env x v) Q E s := by
  refine wpAny_storeName_cell σ.eok.kind ec.kind ec.at_ (σ.cell up.toMem) fun h' hc hs => h _ ?_
  obtain ⟨o, e, i⟩ := hc
  exact σ.mod up (.same (t := s.toks) hs (by rw [e]; exact Option.some_ne_none _)) e i
noncomputable def clo (cells : List (Str × Addr)) : List (Str × NameKind) → List (Str × Addr) → List (Str × Addr)
  | [], acc => acc
  | (n, k) :: r, acc => clo cells r (if k == .free then (n, (cells.lookup n).getD 0) :: acc else acc)
theorem clo_lookup (cells : List (Str × Addr)) {x : Str} : ∀ (names : List (Str × NameKind)) (acc : List (Str × Addr)), ((x, NameKind.free) ∈ names ∨ acc.lookup x = some ((cells.lookup x).getD 0)) → (clo cells names acc).lookup x = some ((cells.lookup x).getD 0)
  | [], acc, h => by rcases h with h | h; cases h; exact h
  | (n, k) :: r, acc, h => by
    unfold clo
    refine clo_lookup cells r _ ?_
    rcases h with h | h
    · rcases List.mem_cons.mp h with h | h
      · cases h; right; simp
      · exact .inl h
    · right
      split
      · by_cases e : x = n
        · subst e; simp
        · have : (x == n) = false := by simpa using e
          rw [List.lookup_cons, this]; exact h
      · exact h
theorem closure_of {scope : Scope} (hf : ∀ x ∈ scope.names, x.2 = .free → ∃ c, env.cells.lookup x.1 = some c) : closureFor scope env = pure (clo env.cells scope.names []) := by
  have go : ∀ (names : List (Str × NameKind)) (acc : List (Str × Addr)), (∀ x ∈ names, x.2 = .free → ∃ c, env.cells.lookup x.1 = some c) →
      (forIn names acc fun (x : Str × NameKind) (cs : List (Str × Addr)) => if (x.2 == NameKind.free) = true then (do let c ← cellOf env x.1; pure (ForInStep.yield ((x.1, c) :: cs))) else pure (ForInStep.yield cs) : Sem (List (Str × Addr))) = pure (clo env.cells names acc) := by
    intro names
    induction names with
    | nil => intro acc _; rw [List.forIn_nil]; rfl
    | cons p r ih =>
      intro acc hf
      obtain ⟨n, k⟩ := p
      rw [List.forIn_cons]
      unfold clo
      by_cases hk : (k == NameKind.free) = true
      · obtain ⟨c, hc⟩ := hf (n, k) (.head _) (by simpa using hk)
        have hc' : env.cells.lookup n = some c := hc
        simp only [hk, if_true, cellOf, hc', Option.getD_some, pure_bind]
        exact ih _ fun x hx => hf x (.tail _ hx)
      · simp only [hk, if_false, pure_bind]
        exact ih _ fun x hx => hf x (.tail _ hx)
  have := go scope.names [] hf
  simp only [closureFor]
  refine Eq.trans (congrArg (fun m => m >>= fun cs => (pure cs >>= fun r => pure r)) this) ?_
  rfl

theorem lookup_relabel_cell {env : Env} (hk : env.scope.kind = .function) : ∀ {names : List (Str × NameKind)} {x : Str}, names.lookup x = some .free → env.kindOf x = some .cell →
    (names.map fun (n, k) => if (k == NameKind.free && env.scope.kind == .function && env.kindOf n == some .cell) then (n, NameKind.cell) else (n, k)).lookup x = some .cell
  | [], _, h, _ => by simp at h
  | (n, k) :: r, x, h, hc => by
    have ih := @lookup_relabel_cell env hk r x
    show List.lookup x ((if (k == NameKind.free && env.scope.kind == .function && env.kindOf n == some .cell) = true then (n, NameKind.cell) else (n, k)) :: _) = _
    cases hx : x == n with
    | true =>
      simp only [List.lookup_cons, hx] at h
      cases h
      have : x = n := by simpa using hx
      subst this
      simp [List.lookup_cons, hk, hc]
    | false =>
      simp only [List.lookup_cons, hx] at h
      split <;> (simp only [List.lookup_cons, hx]; exact ih h hc)

theorem EC.comp {scope : Scope} {x : Str} {c C : Addr} (ec : EC env x c) (hk : env.scope.kind = .function) (hf : scope.names.lookup x = some .free) : EC (compEnvC scope (clo env.cells scope.names []) C env) x c := by
  refine ⟨lookup_relabel_cell hk hf ec.kind, ?_, ec.debug⟩
  show (clo env.cells scope.names []).lookup x = some c
  rw [clo_lookup _ _ _ (.inl (mem_of_lookup hf)), ec.at_]; rfl
structure Iter (prog : Program) (w : World) (A : Around) (it : Addr) (n : Nat) (P : Nat → Value → Prop) (It : Nat → Obj → Prop) (side : Shared → Prop) : Prop where
  item : ∀ {i : Nat} {s : Shared} {Q : Option Value → Shared → Prop} {E : Value → Shared → Prop}, i < n → (∃ o, s.heap.get? it = some o ∧ It i o) → side s →
    (∀ v s' o, P i v → Ext [it] s s' → s'.heap.get? it = some o → It (i + 1) o → Q (some v) s') → wpAny (model prog w) A (pyNext (.ref it)) Q E s
  done : ∀ {s : Shared} {Q : Option Value → Shared → Prop} {E : Value → Shared → Prop}, (∃ o, s.heap.get? it = some o ∧ It n o) → side s →
    (∀ h' t, Heap.ExtBut it s.heap h' → Q none { s with heap := h', toks := t }) → wpAny (model prog w) A (pyNext (.ref it)) Q E s
  self : ∀ {s : Shared} {Q : Value → Shared → Prop} {E : Value → Shared → Prop}, (∃ o, s.heap.get? it = some o ∧ It 0 o) → Q (.ref it) s → wpAny (model prog w) A (pyIter (.ref it)) Q E s

theorem iter_list (hA : A.handled = none) {a : Addr} {xs : List Value} {it : Addr} : Iter prog w A it xs.length (fun i v => xs[i]? = some v) (IsLI a) (fun s => HL s a xs) where
  item := by
    rintro i s Q E hi ⟨o, e, c, d⟩ hl k
    refine wpAny_pyNext_list_item ⟨o, e, c, d⟩ hl.isList (x := xs[i]) (by simp) fun h' hit hs => ?_
    obtain ⟨o', e', c', d'⟩ := hit
    exact k _ _ o' (by simp [hi]) (.same (t := s.toks) hs (by rw [e']; exact Option.some_ne_none _)) e' ⟨c', d'⟩
  done := by
    rintro s Q E ⟨o, e, c, d⟩ hl k
    exact wpAny_pyNext_list_end hA ⟨o, e, c, d⟩ hl.isList (by simp) fun h' hs => k _ s.toks hs
  self := by rintro s Q E ⟨o, e, c, d⟩ h; exact wpAny_pyIter_listiter ⟨o, e, c, d⟩ h
noncomputable def IsTI (a : Addr) (i : Nat) (o : Obj) : Prop := o.cls = .type "tuple_iterator" ∧ o.data = .fields #[.ref a, .int i 0]
theorem iter_tuple (hA : A.handled = none) {a : Addr} {xs : List Value} {it : Addr} : Iter prog w A it xs.length (fun i v => xs[i]? = some v) (IsTI a) (fun s => HT s a xs) where
  item := by
    rintro i s Q E hi ⟨o, e, c, d⟩ hl k
    refine wpAny_pyNext_tuple_item ⟨o, e, c, d⟩ hl.isTuple (x := xs[i]) (by simp) fun h' hit hs => ?_
    obtain ⟨o', e', c', d'⟩ := hit
    exact k _ _ o' (by simp [hi]) (.same (t := s.toks) hs (by rw [e']; exact Option.some_ne_none _)) e' ⟨c', d'⟩
  done := by
    rintro s Q E ⟨o, e, c, d⟩ hl k
    exact wpAny_pyNext_tuple_end hA ⟨o, e, c, d⟩ hl.isTuple (by simp) fun h' hs => k _ s.toks hs
  self := by
    rintro s Q E ⟨o, e, c, d⟩ h
    have hT : s.TypeIs (.ref it) "tuple_iterator" := ⟨o, e, c⟩
    refine wpAny_pyIter_slot hT F.slot_tuple_iterator_iter (wpAny_call_entry F.slot_tuple_iterator_iter hT F.entry_tuple_iterator_iter ?_ (F.args_tuple_iterator_iter_1 _))
    show wpAny _ _ (ret (.ref it)) _ _ s
    exact wpAny_pure ⟨_, rfl, "tuple_iterator", _, hT, F.slot_tuple_iterator_next.lookup, h⟩
theorem iter_range (hA : A.handled = none) {n : Nat} {it : Addr} : Iter prog w A it n (fun i v => ∃ t, v = .int i t) (IsRI n) (fun _ => True) where
  item := by
    rintro i s Q E hi ⟨o, e, rfl⟩ _ k
    refine wpAny_pyNext_range_item e (by lia) fun h' hit' hx => ?_
    refine k _ _ _ ⟨_, rfl⟩ (.same (t := s.toks + 1) hx (by rw [show h'.get? it = _ from hit']; exact Option.some_ne_none _)) hit' ?_
    unfold IsRI
    have e1 : ((i : Int) + 1) = ((i + 1 : Nat) : Int) := by push_cast; rfl
    have e2 : (n : Int) - i - 1 = (n : Int) - ((i + 1 : Nat) : Int) := by push_cast; lia
    rw [e1, e2]
  done := by
    rintro s Q E ⟨o, e, rfl⟩ _ k
    exact wpAny_pyNext_range_end hA e (by lia) fun h' hs => k _ s.toks hs
  self := by
    rintro s Q E ⟨o, e, rfl⟩ h
    have hT : s.TypeIs (.ref it) "range_iterator" := ⟨_, e, rfl⟩
    refine wpAny_pyIter_slot hT F.slot_range_iterator_iter (wpAny_call_entry F.slot_range_iterator_iter hT F.entry_range_iterator_iter ?_ (F.args_range_iterator_iter_1 _))
    show wpAny _ _ (ret (.ref it)) _ _ s
    exact wpAny_pure ⟨_, rfl, "range_iterator", _, hT, F.slot_range_iterator_next.lookup, h⟩
noncomputable def IsSI (x : Str) (t : Tok) (i : Nat) (o : Obj) : Prop := o.cls = .type "str_ascii_iterator" ∧ o.data = .fields #[.str x t, .int i 0]
theorem iter_str (hA : A.handled = none) {x : Str} {t : Tok} {it : Addr} : Iter prog w A it x.cps.size (SignAt x) (IsSI x t) (fun _ => True) where
  item := by
    rintro i s Q E hi ⟨o, e, r⟩ _ k
    refine (Walks.strAscii hA it x t).item i s Q E hi ⟨o, e, r⟩ fun v h' tk hv st hk => ?_
    obtain ⟨o', e', r'⟩ := st
    refine k v _ o' hv ⟨fun b ob hb => ?_, rfl, rfl, rfl⟩ e' r'
    by_cases q : b = it
    · subst q; exact .inl ⟨by simp, by rw [show ({ s with heap := h', toks := tk } : Shared).heap.get? b = _ from e']; exact Option.some_ne_none _⟩
    · exact .inr (hk b ob (by simpa using q) hb)
  done := by
    rintro s Q E ⟨o, e, r⟩ _ k
    exact (Walks.strAscii hA it x t).done s Q E ⟨o, e, r⟩ fun h' tk hk => k h' tk (fun b o' hb ho => hk b o' (by simpa using hb) ho)
  self := by
    rintro s Q E ⟨o, e, r⟩ h
    exact (Walks.strAscii hA it x t).self 0 s Q E ⟨o, e, r⟩ h
theorem ifs_nil {cenv : Env} {Q : Bool → Shared → Prop} (h : Q true s) : wpAny (model prog w) A (forIn ([] : List Expr) true fun c r => if r = true then do let ok ← isTrue c cenv (eval c cenv); pure (ForInStep.yield ok) else pure (ForInStep.yield r)) Q E s := by
  rw [List.forIn_nil]; exact wpAny_pure h
theorem ifs_one {cenv : Env} {c : Expr} {Q : Bool → Shared → Prop} (h : wpAny (model prog w) A (isTrue c cenv (eval c cenv)) Q E s) : wpAny (model prog w) A (forIn [c] true fun c r => if r = true then do let ok ← isTrue c cenv (eval c cenv); pure (ForInStep.yield ok) else pure (ForInStep.yield r)) Q E s := by
  rw [List.forIn_cons]
  simp only [if_true]
  refine wpAny_bind (wpAny_bind (wpAny_mono h (fun b s' q => wpAny_pure ?_) fun _ _ q => q))
  show wpAny _ _ (forIn ([] : List Expr) b _) _ _ _
  rw [List.forIn_nil]; exact wpAny_pure q
theorem comp_block {elt iter : Expr} {x : Str} {px : Pos} {ifs : List Expr} {scope : Scope} {pos : Pos} {it : Addr} {n : Nat} {P : Nat → Value → Prop} {It : Nat → Obj → Prop} {side : Shared → Prop} {RR : Value → Addr → Result → Shared → Prop}
    (I : Iter prog w A it n P It side) (σ : S hb s0 mods g0 env ns vs ((it, It 0) :: led) g s) (hfr : s0.heap.get? it = none) (J : Nat → List Value → FH → Prop)
    (hcell : ∀ y ∈ scope.names, y.2 ≠ .cell) (hkind : scope.kind = .function) (hx : scope.names.lookup x = some .local) (hdx : (x == ("__debug__" : Str)) = false) (hgl : env.globals = mainGlobals) (hbu : env.builtins = builtinsNs)
    (hn : n ≤ sizeLine) (hside : ∀ g' s', GLe g g' → (∃ env' ns' vs' led', S hb s0 mods g0 env' ns' vs' (led' ++ led) g' s') → side s') (h0 : J 0 [] g)
    (turn : ∀ i acc g' v D C s' E', i < n → P i v → J i acc g' → GLe g g' → C = (compEnvC scope (clo env.cells scope.names []) C env).locals →
      S hb s0 mods g0 (compEnvC scope (clo env.cells scope.names []) C env) [x] [some v] ((env.locals, IsFr (fm ns vs)) :: (D, IsL acc) :: (it, It (i + 1)) :: led) g' s' →
      wpAny (model prog w) A (forIn ifs true fun c r => if r = true then do let ok ← isTrue c (compEnvC scope (clo env.cells scope.names []) C env) (eval c (compEnvC scope (clo env.cells scope.names []) C env)); pure (ForInStep.yield ok) else pure (ForInStep.yield r))
        (fun ok s₃ => if ok = true then wpAny (model prog w) A (eval elt (compEnvC scope (clo env.cells scope.names []) C env)) (fun y s₄ => ∃ g'', GLe g' g'' ∧ J (i + 1) (acc ++ [y]) g'' ∧
            S hb s0 mods g0 (compEnvC scope (clo env.cells scope.names []) C env) [x] [some v] ((env.locals, IsFr (fm ns vs)) :: (D, IsL acc) :: (it, It (i + 1)) :: led) g'' s₄) E' s₃
          else ∃ g'', GLe g' g'' ∧ J (i + 1) acc g'' ∧ S hb s0 mods g0 (compEnvC scope (clo env.cells scope.names []) C env) [x] [some v] ((env.locals, IsFr (fm ns vs)) :: (D, IsL acc) :: (it, It (i + 1)) :: led) g'' s₃) E' s')
    (done : ∀ acc g' D C v s', J n acc g' → acc.length ≤ n → GLe g g' → s0.heap.get? C = none → s0.heap.get? D = none → S hb s0 mods g0 env ns vs ((C, IsFr (fm [x] [v])) :: (D, IsL acc) :: led) g' s' → RR (.ref D) C (.ok .next) s') :
    wpAny (model prog w) A (newList []) (fun acc s₃ => wpAny (model prog w) A (newFunctionEnv scope env.globals (clo env.cells scope.names []) [] env.qual none .none (some env)) (fun cenv s₄ =>
      codeAny (model prog w) A (.compStart (.ListComp elt [⟨.Name x px, iter, ifs, 0⟩] scope pos) 0 (.ref it) acc { cenv with scope := relabel scope env }) (RR acc cenv.locals) s₄) E s₃) E s := by
  refine list_new σ (Nat.zero_le _) ?_
  clear σ; intro D s₁ σ hD
  refine wpAny_newFunctionEnv hcell (by intro y hy; simp at hy) (fun h₁ hns₁ hsb₁ => ?_) hkind
  have e0 : (fun y : Str => ([] : List (Str × Value)).reverse.lookup y) = fm [x] [none] := by
    funext z; simp [fm]
  rw [e0] at hns₁
  have fC : s0.heap.get? s₁.heap.objs.size = none := σ.ext.live (get_size _)
  have xt : Ext [] s₁ { s₁ with heap := h₁, toks := s₁.toks + ([] : List (Str × Value)).length } := .of_keeps fun b o e =>
    hsb₁.extBut b o (Nat.ne_of_lt (Heap.lt_size e)) (Heap.get?_push_of_some _ e)
  obtain ⟨oC, eC, iC⟩ := ns_fr hns₁
  have σ₁ := σ.alloc (get_size _) xt eC iC
  show codeAny (model prog w) A (.compStart (.ListComp elt [⟨.Name x px, iter, ifs, 0⟩] scope pos) 0 (.ref it) (.ref D) (compEnvC scope (clo env.cells scope.names []) s₁.heap.objs.size env)) (RR (.ref D) s₁.heap.objs.size) _
  generalize ({ s₁ with heap := h₁, toks := s₁.toks + ([] : List (Str × Value)).length } : Shared) = s₂ at *
  generalize s₁.heap.objs.size = C at *
  have okC : EnvOk (compEnvC scope (clo env.cells scope.names []) C env) [x] := ⟨hkind, hgl, hbu, by
    intro y hy; rw [List.mem_singleton.mp hy]; exact lookup_relabel_local hx, by simp, by intro y hy; rw [List.mem_singleton.mp hy]; exact hdx⟩
  have hok := σ.eok
  have σ₂ := S.swap (env' := compEnvC scope (clo env.cells scope.names []) C env) σ₁ okC (.refl _)
  let K : Nat → Shared → Prop := fun k s' => ∃ i acc g' v, k = n - i ∧ i ≤ n ∧ acc.length ≤ i ∧ J i acc g' ∧ GLe g g' ∧
    S hb s0 mods g0 (compEnvC scope (clo env.cells scope.names []) C env) [x] [v] ((env.locals, IsFr (fm ns vs)) :: (D, IsL acc) :: (it, It i) :: led) g' s'
  have loop : codeAny (model prog w) A (.compLoop (.ListComp elt [⟨.Name x px, iter, ifs, 0⟩] scope pos) 0 (.ref it) (.ref D) (compEnvC scope (clo env.cells scope.names []) C env)) (RR (.ref D) C) s₂ := by
    refine codeAny_compLoop_tests K ?_ (n - 0) ⟨0, [], g, none, rfl, Nat.zero_le _, Nat.zero_le _, h0, GLe.refl, σ₂⟩
    rintro k s₃ ⟨i, acc, g', v, hk, hi, hal, hj, le, σ₃⟩
    have sd : side s₃ := hside g' s₃ le ⟨_, _, _, [(env.locals, IsFr (fm ns vs)), (D, IsL acc), (it, It i)], σ₃⟩
    by_cases hlt : i < n
    · refine I.item hlt (σ₃.get (.tail (.tail .head))) sd fun v s₄ o hp x e ho => ?_
      dsimp only
      replace σ₃ := σ₃.mod (P' := It (i + 1)) (.tail (.tail .head)) x e ho
      refine a_name (w_store σ₃ .head fun s₅ σ₅ => ?_)
      refine wpAny_mono (turn i acc g' v D C s₅ _ hlt hp hj le rfl σ₅) (fun ok s₆ q => ?_) fun _ _ q => q
      cases ok with
      | true =>
        simp only [if_true] at q ⊢
        refine wpAny_mono q (fun y s₇ q => ?_) fun _ _ q => q
        obtain ⟨g'', le', hj', σ₇⟩ := q
        refine wpAny_list_append_plain (σ₇.HL (.tail .head)).plain (fun h' hl hs => ?_) (by have := Nat.le_trans hal hi; simp only [List.size_toArray]; lia)
        have hl' : Mine.HL { s₇ with heap := h' } D (acc ++ [y]) := PlainL_HL hl (by simp)
        have hq := hl'.choose_spec.1
        refine ⟨n - (i + 1), sub_lt1 hk hlt, i + 1, acc ++ [y], g'', some v, rfl, hlt, by simp; lia, hj', le.trans le', ?_⟩
        exact σ₇.modL (.tail .head) (.same (t := s₇.toks) hs (by rw [show h'.get? D = _ from hq]; exact Option.some_ne_none _)) hl'
      | false =>
        obtain ⟨g'', le', hj', σ₇⟩ := q
        exact ⟨n - (i + 1), sub_lt1 hk hlt, i + 1, acc, g'', some v, rfl, hlt, by lia, hj', le.trans le', σ₇⟩
    · have hi' : i = n := by lia
      subst hi'
      refine I.done (σ₃.get (.tail (.tail .head))) sd fun h' t xb => ?_
      dsimp only
      have fI : s0.heap.get? it = none := hfr
      have σ₄ := σ₃.lose (t := t) (it := it) (P := It i) (led' := (env.locals, IsFr (fm ns vs)) :: (D, IsL acc) :: led) (((List.Perm.swap _ _ _).cons _).trans (List.Perm.swap _ _ _)) fI xb
      have σ₅ := σ₄.swap hok (.refl _)
      exact done acc g' D C v _ hj hal le fC hD σ₅
  exact codeAny_compStart_list loop (I.self (σ₂.get (.tail (.tail .head))) loop)

theorem S.ns_of {C : Addr} {m : Str → Option Value} (σ : S hb s0 mods g0 env ns vs ((C, IsFr m) :: led) g s) : s.heap.Ns C m := let ⟨_, e, h⟩ := σ.get .head; fr_ns e h
noncomputable def CompAt (prog : Program) (w : World) (A : Around) (hb : Heap) (s0 : Shared) (mods : List Addr) (g0 : FH) (env : Env) (ns : List Str) (x : Str) (elt : Expr) (ifs : List Expr) (scope : Scope) (F : List (Option Value) → Led → List Value → FH → Addr → Prop) (itv : Value) (s : Shared) : Prop :=
  ∃ (it : Addr) (vs : List (Option Value)) (led : Led) (g : FH) (n : Nat) (P : Nat → Value → Prop) (It : Nat → Obj → Prop) (side : Shared → Prop) (J : Nat → List Value → FH → Prop), itv = .ref it ∧ Iter prog w A it n P It side ∧ S hb s0 mods g0 env ns vs ((it, It 0) :: led) g s ∧ s0.heap.get? it = none ∧ n ≤ sizeLine ∧
      (∀ g' s', GLe g g' → (∃ env' ns' vs' led', S hb s0 mods g0 env' ns' vs' (led' ++ led) g' s') → side s') ∧ J 0 [] g ∧
      (∀ i acc g' v D C s' E', i < n → P i v → J i acc g' → GLe g g' → C = (compEnvC scope (clo env.cells scope.names []) C env).locals →
      S hb s0 mods g0 (compEnvC scope (clo env.cells scope.names []) C env) [x] [some v] ((env.locals, IsFr (fm ns vs)) :: (D, IsL acc) :: (it, It (i + 1)) :: led) g' s' →
      wpAny (model prog w) A (forIn ifs true fun c r => if r = true then do let ok ← isTrue c (compEnvC scope (clo env.cells scope.names []) C env) (eval c (compEnvC scope (clo env.cells scope.names []) C env)); pure (ForInStep.yield ok) else pure (ForInStep.yield r))
        (fun ok s₃ => if ok = true then wpAny (model prog w) A (eval elt (compEnvC scope (clo env.cells scope.names []) C env)) (fun y s₄ => ∃ g'', GLe g' g'' ∧ J (i + 1) (acc ++ [y]) g'' ∧
            S hb s0 mods g0 (compEnvC scope (clo env.cells scope.names []) C env) [x] [some v] ((env.locals, IsFr (fm ns vs)) :: (D, IsL acc) :: (it, It (i + 1)) :: led) g'' s₄) E' s₃
          else ∃ g'', GLe g' g'' ∧ J (i + 1) acc g'' ∧ S hb s0 mods g0 (compEnvC scope (clo env.cells scope.names []) C env) [x] [some v] ((env.locals, IsFr (fm ns vs)) :: (D, IsL acc) :: (it, It (i + 1)) :: led) g'' s₃) E' s') ∧
      (∀ acc g' D, J n acc g' → GLe g g' → acc.length ≤ n → s0.heap.get? D = none → F vs led acc g' D)
theorem e_comp {elt iter : Expr} {x : Str} {px : Pos} {ifs : List Expr} {scope : Scope} {pos : Pos} {Q : Value → Shared → Prop} {vs₀ : List (Option Value)} {led₀ : Led} {g₁ : FH} (σ₀ : S hb s0 mods g0 env ns vs₀ led₀ g₁ s)
    (hcell : ∀ y ∈ scope.names, y.2 ≠ .cell) (hkind : scope.kind = .function) (hnames : ∀ y ∈ scope.names, y.2 = .local → scope.names.lookup y.1 = some .local) (hx : scope.names.lookup x = some .local) (hdx : (x == ("__debug__" : Str)) = false)
    (hf : ∀ y ∈ scope.names, y.2 = .free → ∃ c, env.cells.lookup y.1 = some c)
    (h : wpAny (model prog w) A (eval iter env) (fun xv s₁ => wpAny (model prog w) A (pyIter xv) (fun itv s₂ => CompAt prog w A hb s0 mods g0 env ns x elt ifs scope (fun vs led acc g' D => ∀ s', S hb s0 mods g0 env ns vs ((D, IsL acc) :: led) g' s' → Q (.ref D) s') itv s₂) E s₁) E s)
    (hs : ∀ x, foldedSetIterable iter env x = pure x := by intro _; with_unfolding_all rfl) :
    wpAny (model prog w) A (eval (.ListComp elt [⟨.Name x px, iter, ifs, 0⟩] scope pos) env) Q E s := by
  rw [eval_ListComp]
  refine wpAny_comprehension_free (use := none) rfl hs (closure_of hf) hkind hnames (wpAny_mono h (fun xv s₁ h₁ => wpAny_mono h₁ (fun itv s₂ h₂ => ?_) fun _ _ e => e) fun _ _ e => e)
  obtain ⟨it, vs, led, g, n, P, It, side, J, rfl, I, σ, hfr, hn, hside, h0, turn, done⟩ := h₂
  refine comp_block (RR := fun acc C => compPost (model prog w) A E none Q acc C) I σ hfr J hcell hkind hx hdx σ₀.eok.globals σ₀.eok.builtins hn hside h0 turn ?_
  intro acc g' D C v s' hj hal le hC hD σ'
  refine ⟨_, σ'.ns_of, fun h' hs' => ?_⟩
  exact done acc g' D hj le hal hD _ (σ'.lose (t := s'.toks) (.refl _) hC hs'.extBut)

theorem xs_comp {y : Str} {py : Pos} {elt iter : Expr} {x : Str} {px : Pos} {ifs : List Expr} {scope : Scope} {pos spos : Pos} {rest : List Stmt} {Q : Flow → Shared → Prop} {vs₀ : List (Option Value)} {led₀ : Led} {g₁ : FH} (σ₀ : S hb s0 mods g0 env ns vs₀ led₀ g₁ s)
    (hcell : ∀ y ∈ scope.names, y.2 ≠ .cell) (hkind : scope.kind = .function) (hnames : ∀ y ∈ scope.names, y.2 = .local → scope.names.lookup y.1 = some .local) (hx : scope.names.lookup x = some .local) (hdx : (x == ("__debug__" : Str)) = false)
    (hf : ∀ y ∈ scope.names, y.2 = .free → ∃ c, env.cells.lookup y.1 = some c)
    (h : wpAny (model prog w) A (eval iter env) (fun xv s₁ => wpAny (model prog w) A (pyIter xv) (fun itv s₂ => CompAt prog w A hb s0 mods g0 env ns x elt ifs scope (fun vs led acc g' D => ∃ vs', Put ns vs y (.ref D) vs' ∧ ∀ s', S hb s0 mods g0 env ns vs' ((D, IsL acc) :: led) g' s' → wpAny (model prog w) A (execs rest env) Q E s') itv s₂) E s₁) E s)
    (hsw : swapsWith (.ListComp elt [⟨.Name x px, iter, ifs, 0⟩] scope pos) (some (.Name y py)) spos.line env = pure true := by with_unfolding_all rfl)
    (hs : ∀ x, foldedSetIterable iter env x = pure x := by intro _; with_unfolding_all rfl) :
    wpAny (model prog w) A (execs (.Assign [.Name y py] (.ListComp elt [⟨.Name x px, iter, ifs, 0⟩] scope pos) spos :: rest) env) Q E s := by
  refine wpAny_execs_cons (Q := Q) ?_
  rw [exec_Assign_Name_used _ _ _ _ hsw]
  refine wpAny_bind (wpAny_standAt (wpAny_bind ?_))
  show wpAny _ A (do let _ ← comprehension (.ListComp elt [⟨.Name x px, iter, ifs, 0⟩] scope pos) scope env _ (newList []) false (eval iter env) (some (assign (.Name y py) env))) _ _ s
  refine wpAny_bind (wpAny_mono (wpAny_comprehension_free (use := some (assign (.Name y py) env)) (Q := fun _ s' => wpAny (model prog w) A (execs rest env) Q E s') rfl hs (closure_of hf) hkind hnames
    (wpAny_mono h (fun xv s₁ h₁ => wpAny_mono h₁ (fun itv s₂ h₂ => ?_) fun _ _ e => e) fun _ _ e => e)) (fun _ s' hq => wpAny_pure (wpAny_pure hq)) fun _ _ e => e)
  obtain ⟨it, vs, led, g, n, P, It, side, J, rfl, I, σ, hfr, hn, hside, h0, turn, done⟩ := h₂
  refine comp_block (RR := fun acc C => compPost (model prog w) A E (some (assign (.Name y py) env)) (fun _ s' => wpAny (model prog w) A (execs rest env) Q E s') acc C) I σ hfr J hcell hkind hx hdx σ₀.eok.globals σ₀.eok.builtins hn hside h0 turn ?_
  intro acc g' D C v s' hj hal le hC hD σ'
  show wpAny _ A (assign (.Name y py) env (.ref D)) _ _ _
  obtain ⟨vs', u, k⟩ := done acc g' D hj le hal hD
  refine a_name (w_store σ' u fun s'' σ'' => ?_)
  refine ⟨_, σ''.ns_of, fun h' hs' => ?_⟩
  exact k _ (σ''.lose (t := s''.toks) (.refl _) hC hs'.extBut)
end
section
variable {prog : Program} {w : World} {A : Around} {E : Value → Shared → Prop}
variable {hb : Heap} {s0 : Shared} {mods : List Addr} {g0 : FH} {env : Env} {ns : List Str} {vs : List (Option Value)} {led : Led} {g : FH} {s s' : Shared}

theorem bindL_of (k : Str → Option NameKind) : ∀ (binds : List (Str × Value)) (m : Str → Option Value),
    bindL k binds m = fun x => ((binds.filter fun p => k p.1 == some .local).reverse.lookup x).or (m x)
  | [], m => by funext x; simp [bindL]
  | (n, v) :: r, m => by
    unfold bindL
    rw [bindL_of k r]
    funext x
    by_cases h : k n = some .local
    · rw [if_pos h, List.filter_cons_of_pos (by simp [h])]
      rw [List.reverse_cons, List.lookup_append]
      by_cases e : x = n
      · subst e; cases hh : List.lookup x (List.filter (fun p => k p.1 == some .local) r).reverse <;> simp
      · have : List.lookup x [(n, v)] = none := by simp [e]
        rw [this, if_neg e]; simp
    · rw [if_neg h, List.filter_cons_of_neg (by simp [h])]
theorem bindC_of (k : Str → Option NameKind) : ∀ (binds : List (Str × Value)) (m : Str → Option Value),
    bindC k binds m = fun x => ((binds.filter fun p => !(k p.1 == some .local)).reverse.lookup x).or (m x)
  | [], m => by funext x; simp [bindC]
  | (n, v) :: r, m => by
    unfold bindC
    rw [bindC_of k r]
    funext x
    by_cases h : k n = some .local
    · rw [if_pos h, List.filter_cons_of_neg (by simp [h])]
    · rw [if_neg h, List.filter_cons_of_pos (by simp [h])]
      rw [List.reverse_cons, List.lookup_append]
      by_cases e : x = n
      · subst e; cases hh : List.lookup x (List.filter (fun p => !(k p.1 == some .local)) r).reverse <;> simp
      · have : List.lookup x [(n, v)] = none := by simp [e]
        rw [this, if_neg e]; simp

theorem cellsFrom_some {x : Str} : ∀ (names : List (Str × NameKind)) (n : Nat) (acc : List (Str × Addr)), ((x, NameKind.cell) ∈ names ∨ (acc.lookup x).isSome = true) → ((cellsFrom n names acc).lookup x).isSome = true
  | [], _, _, h => by rcases h with h | h; cases h; exact h
  | (y, k) :: r, n, acc, h => by
    unfold cellsFrom
    have keep : ∀ c : Addr, (acc.lookup x).isSome = true → (List.lookup x ((y, c) :: acc)).isSome = true := fun c h => by
      rw [List.lookup_cons]; split
      · rfl
      · exact h
    split
    · refine cellsFrom_some r _ _ ?_
      rcases h with h | h
      · rcases List.mem_cons.mp h with h | h
        · cases h; right; simp
        · exact .inl h
      · exact .inr (keep _ h)
    · rename_i hk
      refine cellsFrom_some r _ _ ?_
      rcases h with h | h
      · rcases List.mem_cons.mp h with h | h
        · cases h; exact absurd rfl hk
        · exact .inl h
      · exact .inr h

inductive Cells (env : Env) : List (Str × Option Value) → List Addr → Prop
  | nil : Cells env [] []
  | cons {n v c cns cs} : EC env n c → Cells env cns cs → Cells env ((n, v) :: cns) (c :: cs)
noncomputable def cellLed : List (Str × Option Value) → List Addr → Led
  | (_, v) :: cns, c :: cs => (c, IsC v) :: cellLed cns cs
  | _, _ => []

theorem startC {R : Result → Shared → Prop} {f : Addr} {fd : FuncData} {args : List Value} {led : Led} (mods : List Addr) (binds bl : List (Str × Value)) (others gs : List Str) (cns : List (Str × Option Value)) (bns cnn : List Str) {ns : List Str} {vs : List (Option Value)}
    (fn : FN hb f fd) (room : A.depth < recursionLimit) (hz : Frz hb g s) (hbind : bindArgs fd ⟨args, []⟩ = pure binds)
    (hbl : (binds.filter fun p => fd.scope.names.lookup p.1 == some .local) = bl)
    (hcv : cns.map (·.2) = cns.map fun c => (binds.filter fun p => !(fd.scope.names.lookup p.1 == some .local)).reverse.lookup c.1)
    (hns : bl.map (·.1) ++ others = ns) (hvs : bl.map (fun p => some p.2) ++ others.map (fun _ => none) = vs)
    (hbn : binds.map (·.1) = bns) (hcn : cns.map (·.1) = cnn)
    (hchk : (bns.all (fun x => fd.scope.names.lookup x == some .local || cnn.contains x) && cnn.all (fun x => fd.scope.names.lookup x == some .cell) && ns.all (fun x => fd.scope.names.lookup x == some .local) && gs.all (fun x => fd.scope.names.lookup x == some .globalImplicit) &&
      !fd.scope.isCoroutine && !fd.scope.isGenerator && fd.scope.kind == .function && decide ns.Nodup && decide cnn.Nodup && (ns ++ gs ++ cnn).all (fun x => !(x == ("__debug__" : Str)))) = true)
    (hled : ∀ p ∈ led, ∃ o, s.heap.get? p.1 = some o ∧ p.2 o) (hnod : (led.map (·.1)).Nodup) (hout : ∀ p ∈ led, g p.1 = none ∧ p.1 ∈ mods)
    (h : ∀ env E s' cs, EnvG env gs → Cells env cns cs → S hb s mods g env ns vs (cellLed cns cs ++ led) g s' →
      wpAny (model prog w) (A.deeper env) (execs (bodyOf fd) env) (fun fl s' => R (.ok (.ret (retv fl))) s') E s')
    (hbody : fd.body = .stmts (bodyOf fd) := by rfl) (hclo : fd.closure = [] := by rfl) (hgl : fd.globals = mainGlobals := by rfl) (hbu : fd.builtins = builtinsNs := by rfl) :
    codeAny (model prog w) A (.call (.ref f) ⟨args, []⟩) R s := by
  subst hns hvs hbn hcn
  simp only [Bool.and_eq_true, List.all_eq_true, beq_iff_eq, Bool.not_eq_true', decide_eq_true_eq, Bool.or_eq_true, List.contains_iff_mem] at hchk
  obtain ⟨⟨⟨⟨⟨⟨⟨⟨⟨h1, h2⟩, h2'⟩, h3⟩, h4⟩, h5⟩, h6⟩, h7⟩, h7'⟩, h8⟩ := hchk
  obtain ⟨⟨o, ho, hdata⟩, hcd, hlim⟩ := fn
  have hbs : ∀ a o, hb.get? a = some o → s.heap.get? a = some o := fun a o e => hz.2 a o (hz.1 a o e)
  refine codeAny_call_cells room (hbs _ _ ho) hdata (hlim.keeps hbs) (hcd.keeps hbs) hbody hbind hclo (fun x hx => ?_) (fun s₁ x => ?_) h4 h5 h6
  · rcases h1 x.1 (List.mem_map.mpr ⟨x, hx, rfl⟩) with q | q
    · exact .inl q
    · exact .inr ⟨h2 _ q, cellsFrom_some _ _ _ (.inl (mem_of_lookup (h2 _ q)))⟩
  · generalize hE : callEnvC fd s.heap.objs.size f = env at x
    have eL : env.locals = s.heap.objs.size := by rw [← hE]; rfl
    have eS : env.scope = fd.scope := by rw [← hE]; rfl
    have eK : env.kindOf = fun y => fd.scope.names.lookup y := by funext y; rw [Env.kindOf, eS]
    have eC : env.cells = cellsFrom (s.heap.objs.size + 1) fd.scope.names [] := by rw [← hE]; rfl
    have hcells : ∀ n ∈ cns.map (·.1), ∃ c, env.cells.lookup n = some c := fun n hn => by
      have := cellsFrom_some (x := n) fd.scope.names (s.heap.objs.size + 1) [] (.inl (mem_of_lookup (h2 n hn)))
      rw [← eC] at this
      exact Option.isSome_iff_exists.mp this
    rw [bindL_of, bindC_of, eK] at x
    simp only [hbl, Option.or_none] at x
    rw [fm_binds bl others h7] at x
    -- the cells
    have hgo : ∀ (l : List (Str × Option Value)), (∀ p ∈ l, p ∈ cns) → (l.map (·.1)).Nodup → ∃ cs, Cells env l cs ∧ (cellLed l cs).map (·.1) = cs ∧ cs.Nodup ∧ (∀ c ∈ cs, ∃ n, n ∈ l.map (·.1) ∧ (n, c) ∈ env.cells) ∧ (∀ p ∈ cellLed l cs, ∃ o, s₁.heap.get? p.1 = some o ∧ p.2 o) := by
      intro l
      induction l with
      | nil => intro _ _; exact ⟨[], .nil, rfl, List.nodup_nil, by simp, by simp [cellLed]⟩
      | cons p r ih =>
        intro hl hnd
        obtain ⟨n, v⟩ := p
        have hnd' := List.nodup_cons.mp (show (n :: r.map (·.1)).Nodup from hnd)
        obtain ⟨cs, i1, i2, i3, i4, i5⟩ := ih (fun p hp => hl p (.tail _ hp)) hnd'.2
        have hm : (n, v) ∈ cns := hl _ (.head _)
        have hmn : n ∈ cns.map (·.1) := List.mem_map.mpr ⟨_, hm, rfl⟩
        obtain ⟨c, hc⟩ := hcells n hmn
        have hv : v = ((binds.filter fun p => !(fd.scope.names.lookup p.1 == some .local)).reverse.lookup n) := by
          have := List.map_inj_left.mp hcv (n, v) hm
          exact this
        refine ⟨c :: cs, .cons ⟨by rw [eK]; exact h2 n hmn, hc, by
          have := h8 n (List.mem_append_right _ hmn); simpa using this⟩ i1, by simp [cellLed, i2], ?_, ?_, ?_⟩
        · refine List.nodup_cons.mpr ⟨fun q => ?_, i3⟩
          obtain ⟨n', hn', hc'⟩ := i4 c q
          have := name_of_addr x.apart (mem_of_lookup hc) hc'
          exact hnd'.1 (this ▸ hn')
        · intro c' hc'
          rcases List.mem_cons.mp hc' with rfl | hc'
          · exact ⟨n, .head _, mem_of_lookup hc⟩
          · obtain ⟨n', a, b⟩ := i4 c' hc'; exact ⟨n', .tail _ a, b⟩
        · intro p hp
          rcases List.mem_cons.mp (show p ∈ (c, IsC v) :: cellLed r cs from hp) with rfl | hp
          · obtain ⟨o, e, d⟩ := x.cell n c hc
            exact ⟨o, e, by show o.data = .cell v; rw [d, hv]⟩
          · exact i5 p hp
    obtain ⟨cs, c1, c2, c3, c4, c5⟩ := hgo cns (fun _ h => h) h7'
    have habove : ∀ c ∈ cs, s.heap.objs.size < c := fun c hc => by obtain ⟨n, _, hn⟩ := c4 c hc; exact eL ▸ x.above n c hn
    have fresh : ∀ a, s.heap.objs.size ≤ a → s.heap.get? a = none := fun a ha => by
      cases q : s.heap.get? a with
      | none => rfl
      | some o => exact absurd (Heap.lt_size q) (Nat.not_lt.mpr ha)
    have gfresh : ∀ a, s.heap.objs.size ≤ a → g a = none := fun a ha => by
      cases q : g a with
      | none => rfl
      | some o => have := hz.2 _ _ q; rw [fresh a ha] at this; cases this
    have hlt : ∀ p ∈ led, p.1 < s.heap.objs.size := fun p hp => by obtain ⟨o, e, _⟩ := hled p hp; exact Heap.lt_size e
    rw [← hE] at *
    refine wpAny_mono (h _ _ s₁ cs (fun y hy => ⟨by rw [eK]; exact h3 y hy, by have := h8 y (List.mem_append_left _ (List.mem_append_right _ hy)); simpa using this⟩) c1 ⟨⟨h6, hgl, hbu, fun y hy => by rw [eK]; exact h2' y hy, h7, fun y hy => by have := h8 y (List.mem_append_left _ (List.mem_append_left _ hy)); simpa using this⟩, x.toInCall.ns, ?_, ?_, ?_, hz.1, fun a o e => x.toInCall.keep a o (hz.2 a o e), fun _ _ e => e, fun _ _ e => .inl e, ?_⟩) (fun fl s' q => by cases fl <;> exact q) fun _ _ q => q
    · intro p hp
      rcases List.mem_append.mp hp with hp | hp
      · exact c5 p hp
      · obtain ⟨o, e, q⟩ := hled p hp; exact ⟨o, x.toInCall.keep _ _ e, q⟩
    · rw [List.map_append, c2]
      refine List.nodup_cons.mpr ⟨fun q => ?_, List.nodup_append.mpr ⟨c3, hnod, fun a ha b hb e => ?_⟩⟩
      · rcases List.mem_append.mp q with q | q
        · exact absurd (habove _ q) (by rw [eL]; exact Nat.lt_irrefl _)
        · obtain ⟨p, hp, e⟩ := List.mem_map.mp q
          exact absurd (hlt p hp) (by rw [e, eL]; exact Nat.lt_irrefl _)
      · obtain ⟨p, hp, e'⟩ := List.mem_map.mp hb
        have q1 := hlt p hp
        have q2 := habove a ha
        have e2 : p.1 = a := e'.trans e.symm
        rw [e2] at q1
        exact Nat.lt_asymm q1 q2
    · intro a ha
      rw [List.map_append, c2] at ha
      rcases List.mem_cons.mp ha with rfl | ha
      · exact ⟨gfresh _ (Nat.le_of_eq eL.symm), .inl (fresh _ (Nat.le_of_eq eL.symm))⟩
      · rcases List.mem_append.mp ha with ha | ha
        · have q := Nat.le_of_lt (habove a ha)
          exact ⟨gfresh _ q, .inl (fresh _ q)⟩
        · obtain ⟨p, hp, rfl⟩ := List.mem_map.mp ha
          exact ⟨(hout p hp).1, .inr (hout p hp).2⟩
    · obtain ⟨h', tk, e⟩ := x.toInCall.same
      exact ⟨fun a o q => .inr (x.toInCall.keep a o q), by rw [e], by rw [e], by rw [e]⟩
end
end Mine
end
section
open PySem PySem.W PyProof.Rows PySem.Calls PySem.SeqAt PyProof.V Builtin.Str
namespace Mine
section
variable {prog : Program} {w : World} {A : Around} {E : Value → Shared → Prop}
variable {hb : Heap} {s0 : Shared} {mods : List Addr} {g0 : FH} {env : Env} {ns : List Str} {vs : List (Option Value)} {led : Led} {g : FH} {s s' : Shared}
noncomputable def SG (g : FH) (a : Addr) (x y : Value) : Prop := ∃ o, g a = some o ∧ o.cls = .type "slice" ∧ o.data = .fields #[x, y, .none]
noncomputable abbrev kSl2 (hb : Heap) (s0 : Shared) (mods : List Addr) (g0 : FH) (env : Env) (ns : List Str) (l : Value) (Q : Value → Shared → Prop) : Value → Shared → Prop := fun u s₂ => ∃ vs led g, S hb s0 mods g0 env ns vs led g s₂ ∧ (∀ a g' s', S hb s0 mods g0 env ns vs led g' s' → GLe g g' → SG g' a l u → Q (.ref a) s')
noncomputable abbrev kSl1 (prog : Program) (w : World) (A : Around) (E : Value → Shared → Prop) (hb : Heap) (s0 : Shared) (mods : List Addr) (g0 : FH) (env : Env) (ns : List Str) (hi : Option Expr) (Q : Value → Shared → Prop) : Value → Shared → Prop := fun l s₁ => wpAny (model prog w) A (evalPart hi env) (kSl2 hb s0 mods g0 env ns l Q) E s₁
theorem e_slice (_σ : S hb s0 mods g0 env ns vs led g s) {lo hi : Option Expr} {p : Pos} {Q : Value → Shared → Prop}
    (h : wpAny (model prog w) A (evalPart lo env) (kSl1 prog w A E hb s0 mods g0 env ns hi Q) E s) :
    wpAny (model prog w) A (eval (.Slice lo hi none p) env) Q E s := by
  refine wpAny_Slice (wpAny_mono h (fun l s₁ h₁ => wpAny_mono h₁ (fun u s₂ h₂ => ?_) fun _ _ e => e) fun _ _ e => e)
  obtain ⟨vs, led, g, σ, k⟩ := h₂
  rw [evalPart_none]
  refine wpAny_pure ?_
  have q := σ.ice (a := s₂.heap.objs.size) (get_size _) (Ext.push (t := s₂.toks) (o := { cls := .type "slice", data := .fields #[l, u, .none] })) (Heap.get?_push_size _ rfl)
  exact k _ _ _ q.1 q.2 ⟨_, FH.put_self, rfl, rfl⟩
theorem p_none {Q : Value → Shared → Prop} (h : Q .none s) : wpAny (model prog w) A (evalPart none env) Q E s := wpAny_pure h
theorem p_some {e : Expr} {Q : Value → Shared → Prop} (h : wpAny (model prog w) A (eval e env) Q E s) : wpAny (model prog w) A (evalPart (some e) env) Q E s := h
theorem S.SG (σ : S hb s0 mods g0 env ns vs led g s) {a : Addr} {x y : Value} (h : SG g a x y) : s.heap.IsSliceOf a x y .none := let ⟨o, e, r⟩ := h; ⟨o, σ.gin _ _ e, r⟩
theorem sl_tuple (σ : S hb s0 mods g0 env ns vs led g s) {value slice : Expr} {t sl : Addr} {l : List Value} {a : Nat} {u : Tok} {Q : Value → Shared → Prop} (ht : HT s t l) (hs : SG g sl (.int a u) .none) (h1 : 1 ≤ a) (ha : a ≤ l.length) (hsz : l.length ≤ sizeLine)
    (h : ∀ c g' s', S hb s0 mods g0 env ns vs led g' s' → GLe g g' → TG g' c (l.drop a) → Q (.ref c) s')
    (hsub : subscripted slice false (.ref t) (.ref sl) = operate [.ref sl, .ref t] (getItem (.ref t) (.ref sl)) := by with_unfolding_all rfl) :
    wpAny (model prog w) A (subscriptTail value slice (.ref t) (.ref sl)) Q E s := by
  refine tail_any ht.isTuple.typeIs slot_tuple_getitem.lookup (getItem_tuple_from ht.isTup (σ.SG hs) h1 (by simpa using ha) ?_ (by simpa using hsz)) hsub
  have q := σ.ice (a := s.heap.objs.size) (get_size _) (Ext.push (t := s.toks) (o := { cls := .type "tuple", data := .seq (l.toArray.toList.drop a).toArray })) (Heap.get?_push_size _ rfl)
  exact h _ _ _ q.1 q.2 ⟨_, FH.put_self, 0, by simp⟩
theorem sl_list (σ : S hb s0 mods g0 env ns vs led g s) {value slice : Expr} {a sl : Addr} {l ys : List Value} {x y : Value} {lo hi : Option Int} {Q : Value → Shared → Prop} (hl : HL s a l) (hs : SG g sl x y) (px : IsPart x lo) (py : IsPart y hi) (hsz : l.length ≤ sizeLine)
    (he : slicePick l.toArray lo hi none = ys.toArray)
    (h : ∀ c s', S hb s0 mods g0 env ns vs ((c, IsL ys) :: led) g s' → s0.heap.get? c = none → Q (.ref c) s')
    (hsub : subscripted slice false (.ref a) (.ref sl) = operate [.ref sl, .ref a] (getItem (.ref a) (.ref sl)) := by with_unfolding_all rfl) :
    wpAny (model prog w) A (subscriptTail value slice (.ref a) (.ref sl)) Q E s := by
  refine tail_any hl.there.1 PySem.F.slot_list_getitem.lookup (wpAny_getItem_list_slice hl.isList (σ.SG hs) px py .none (by simp) ?_ (by simpa using hsz)) hsub
  rw [he]
  have q := σ.alloc (a := s.heap.objs.size) (P := IsL ys) (get_size _) (Ext.push (t := s.toks) (o := { cls := .type "list", data := .seq ys.toArray })) (Heap.get?_push_size _ rfl) ⟨_, rfl⟩
  exact h _ _ q (σ.ext.live (get_size _))
theorem c_ne_tuples {l b : Addr} {xs ys : List Value} {e : Nat → Bool} {Q : Value → Shared → Prop} (hl : HT s l xs) (hb' : HT s b ys) (hu : A.units < cLine)
    (he : ∀ j (h1 : j < xs.length) (h2 : j < ys.length), EqAt A.in1 s xs[j] ys[j] (e j))
    (h : Q (.bool (!((List.range (min xs.length ys.length)).all e && xs.length == ys.length))) s) : wpAny (model prog w) A (compareOp .NotEq (.ref l) (.ref b)) Q E s := by
  refine RcNeAt.tuples (e := e) hl.isTuple hb'.isTuple hu (fun j h1 h2 => he j (by simpa using h1) (by simpa using h2)) prog w E Q ?_
  simpa using h
theorem c_eq_tuples {l b : Addr} {xs ys : List Value} {e : Nat → Bool} {Q : Value → Shared → Prop} (hl : HT s l xs) (hb' : HT s b ys) (hu : A.units < cLine)
    (he : ∀ j (h1 : j < xs.length) (h2 : j < ys.length), EqAt A.in1 s xs[j] ys[j] (e j))
    (h : Q (.bool ((List.range (min xs.length ys.length)).all e && xs.length == ys.length)) s) : wpAny (model prog w) A (compareOp .Eq (.ref l) (.ref b)) Q E s := by
  refine RcAt.tuples (e := e) hl.isTuple hb'.isTuple hu (fun j h1 h2 => he j (by simpa using h1) (by simpa using h2)) prog w E Q ?_
  simpa using h
theorem ints_get {l : List Value} {is : List Int} (h : IntsAre l is) : ∀ {j : Nat} (hj : j < l.length), ∃ (hj' : j < is.length) (t : Tok), l[j] = .int is[j] t := by
  induction h with
  | nil => intro j hj; simp at hj
  | cons i t _ ih =>
    intro j hj
    cases j with
    | zero => exact ⟨by simp, t, rfl⟩
    | succ j => obtain ⟨a, u, e⟩ := ih (j := j) (by simpa using hj); exact ⟨by simpa using a, u, by simpa using e⟩
theorem ints_len {l : List Value} {is : List Int} (h : IntsAre l is) : l.length = is.length := by induction h with | nil => rfl | cons _ _ _ ih => simp [ih]
noncomputable def eqJ (is js : List Int) (j : Nat) : Bool := is[j]? == js[j]?
theorem ints_eqAt {l m : List Value} {is js : List Int} (hi : IntsAre l is) (hj : IntsAre m js) (j : Nat) (h1 : j < l.length) (h2 : j < m.length) : EqAt A s l[j] m[j] (eqJ is js j) := by
  obtain ⟨a1, t1, e1⟩ := ints_get hi h1
  obtain ⟨a2, t2, e2⟩ := ints_get hj h2
  rw [e1, e2]
  have : eqJ is js j = (is[j] == js[j]) := by unfold eqJ; rw [List.getElem?_eq_getElem a1, List.getElem?_eq_getElem a2]; simp
  rw [this]; exact EqAt.int_int _ _ _ _
theorem all_eqJ (is js : List Int) : ((List.range (min is.length js.length)).all (eqJ is js) && is.length == js.length) = decide (is = js) := by
  rw [Bool.eq_iff_iff]
  simp only [Bool.and_eq_true, List.all_eq_true, List.mem_range, beq_iff_eq, decide_eq_true_eq, eqJ]
  constructor
  · rintro ⟨h, hl⟩
    apply List.ext_getElem? fun j => ?_
    by_cases hj : j < is.length
    · exact h j (by lia)
    · rw [List.getElem?_eq_none (by lia), List.getElem?_eq_none (by lia)]
  · rintro rfl; exact ⟨fun _ _ => rfl, rfl⟩
theorem ints_eqT {l b : Addr} {xs ys : List Value} {is js : List Int} (hl : HT s l xs) (hb' : HT s b ys) (hi : IntsAre xs is) (hj : IntsAre ys js) (hu : A.units < cLine) : RcAt A s (.ref l) (.ref b) (decide (is = js)) := fun prog w E Q h => by
  refine c_eq_tuples hl hb' hu (fun j h1 h2 => ints_eqAt hi hj j h1 h2) ?_
  rw [ints_len hi, ints_len hj, all_eqJ]; exact h
theorem c_ne_intsT {l b : Addr} {xs ys : List Value} {is js : List Int} {Q : Value → Shared → Prop} (hl : HT s l xs) (hb' : HT s b ys) (hi : IntsAre xs is) (hj : IntsAre ys js) (hu : A.units < cLine)
    (h : Q (.bool (!decide (is = js))) s) : wpAny (model prog w) A (compareOp .NotEq (.ref l) (.ref b)) Q E s := by
  refine c_ne_tuples hl hb' hu (fun j h1 h2 => ints_eqAt hi hj j h1 h2) ?_
  rw [ints_len hi, ints_len hj, all_eqJ]; exact h
theorem ints_eqR {l b : Addr} {xs ys : List Value} {is js : List Int} (hl : HT s l xs) (hb' : HT s b ys) (hi : IntsAre xs is) (hj : IntsAre ys js) (hu : A.units < cLine) : EqAt A s (.ref l) (.ref b) (decide (is = js)) := by
  by_cases e : l = b
  · subst e
    have : xs = ys := by
      obtain ⟨o, e1, n, rfl⟩ := hl; obtain ⟨o', e2, n', h2⟩ := hb'
      rw [e1] at e2; cases e2; injection h2 with _ _ q; injection q with q1; simpa using q1
    subst this
    have : is = js := by
      apply List.ext_getElem ((ints_len hi).symm.trans (ints_len hj)) fun j h1 h2 => ?_
      obtain ⟨_, t1, e1⟩ := ints_get hi (j := j) (by rw [ints_len hi]; exact h1)
      obtain ⟨_, t2, e2⟩ := ints_get hj (j := j) (by rw [ints_len hi]; exact h1)
      rw [e1] at e2; injection e2
    rw [decide_eq_true this]; exact EqAt.same _
  · exact EqAt.of_refs e (ints_eqT hl hb' hi hj hu)
theorem ix_str (σ : S hb s0 mods g0 env ns vs led g s) {value slice : Expr} {x : Str} {t u : Tok} {k : Int} {c : Nat} {Q : Value → Shared → Prop} (h0 : 0 ≤ k) (hfit : k < 2 ^ 63) (hc : x.cps[k.toNat]? = some c)
    (h : ∀ t' s', S hb s0 mods g0 env ns vs led g s' → Q (.str ⟨#[c]⟩ t') s')
    (hs : subscripted slice false (.str x t) (.int k u) = operate [.str x t, .int k u] (getItem (.str x t) (.int k u)) := by with_unfolding_all rfl) : wpAny (model prog w) A (subscriptTail value slice (.str x t) (.int k u)) Q E s := by
  have hlt : k.toNat < x.cps.size := by
    rcases Nat.lt_or_ge k.toNat x.cps.size with q | q
    · exact q
    · rw [Array.getElem?_eq_none q] at hc; cases hc
  refine tail_any (typeIs_str s x t) F.slot_str_getitem.lookup (P.getItem_str (by simp; lia) (c := c) ?_ (h _ _ σ.toks)) hs
  have : seqIndex? k x.length = some k.toNat := by
    exact seq_at h0 hlt
  rw [this]; exact hc
theorem add_1 (σ : S hb s0 mods g0 env ns vs led g s) {x y : Nat} {t u : Tok} {Q : Value → Shared → Prop} (h : ∀ t' s', S hb s0 mods g0 env ns vs led g s' → Q (.str ⟨#[x, y]⟩ t') s') : wpAny (model prog w) A (binaryOp .Add (.str ⟨#[x]⟩ t) (.str ⟨#[y]⟩ u)) Q E s :=
  P.add_str (show _ ∧ Q _ _ from ⟨(by with_unfolding_all exact Nat.le_of_ble_eq_true rfl), h _ _ σ.toks⟩)
theorem m_dget (σ0 : S hb s0 mods g0 env ns vs led g s) (big : ∀ {s' : Shared} {g' : FH} {vs' : List (Option Value)} {led' : Led}, S hb s0 mods g0 env ns vs' led' g' s' → 2 ≤ s'.heap.objs.size) {keys : List (Option Expr)} {values : List Expr} {x : Expr} {dpos apos pos : Pos} {D : List (PyData × PyData)} {Q : Value → Shared → Prop} (hD : litPairs keys values = some D) (hsk : strKeyed D = true) (hn : (strKeysOf D).Nodup)
    (hall : keys.all (·.isSome) = true) (hlen' : keys.length = values.length) (h0 : keys ≠ []) (hlen : keys.length ≤ 15)
    (h' : ∀ d kvs s₁, S hb s0 mods g0 env ns vs ((d, IsD (strKind prog w) kvs) :: led) g s₁ → FlatPairs PyData.str kvs D → wpAny (model prog w) A (eval x env) (fun v s₂ => ∃ y t led' g', v = .str y t ∧ S hb s0 mods g0 env ns vs ((d, IsD (strKind prog w) kvs) :: led') g' s₂ ∧
      (∀ v s₃, Flat v ((Spec.lookup (.str y) D).getD .none) → S hb s0 mods g0 env ns vs led' g' s₃ → Q v s₃)) E s₁)
    (hbase : attributeBase (.Dict keys values dpos) "get" env (eval (.Dict keys values dpos) env) = eval (.Dict keys values dpos) env := by with_unfolding_all rfl) (hline : (apos.endLine == pos.line) = true := by with_unfolding_all rfl)
    (hx : backTo pos (starEach [x] env) = [(false, eval x env)] := by with_unfolding_all rfl) :
    wpAny (model prog w) A (eval (.Call (.Attribute (.Dict keys values dpos) "get" apos) [x] [] pos) env) Q E s := by
  refine wpAny_Call_method1_late hbase hline hx (Dict_lits_str hD hsk hn hall hlen' h0 hlen fun a o h₁ tk hge ho htab hk => ?_)
  obtain ⟨kvs, hd, hf⟩ := htab
  have fr : s.heap.get? a = none := by
    cases e : s.heap.get? a with
    | none => rfl
    | some o' => exact absurd (Heap.lt_size e) (Nat.not_lt.mpr hge)
  have σ := σ0.alloc (P := IsD (strKind prog w) kvs) fr (Ext.of_keeps (t := tk) hk) ho hd
  have hds : (a == sysModules) = false := by
    have := big σ0
    have h1 : a ≠ 1 := by intro e; rw [e] at hge; lia
    simpa [sysModules] using h1
  have hm : Mine.HD (strKind prog w) { s with heap := h₁, toks := tk } a kvs := σ.HD .head
  obtain ⟨ob, hob, hod⟩ := Heap.dictOf_iff.mp hm
  refine ⟨"dict", "dict.get", F.plainAttrs_dict, F.slot_dict_get, F.type_dict_get, Heap.DictOf.typeIs hm, ?_, ?_⟩
  · intro b hb'; cases hb'
    obtain ⟨_, _, ex, _⟩ := hod
    exact ⟨_, hob, ex.2.1⟩
  · refine wpAny_dict_get1 (knd := strKind prog w) hds (wpAny_mono (h' a kvs _ σ hf) (fun v s₂ q => ?_) fun _ _ e => e)
    obtain ⟨y, t, led', g', rfl, σ₂, k⟩ := q
    refine ⟨y, valueAt kvs, strKind_is .., Heap.DictOf.mapOf (σ₂.HD .head), ?_⟩
    exact k _ _ (FlatPairs.getD (fun _ _ => same_str ..) hf y (Flat.none)) (σ₂.drop (List.sublist_cons_self ..)).toks

theorem m_sindex (σ : S hb s0 mods g0 env ns vs led g s) {x : Str} {e : Expr} {kc : Nat} {p0 apos pos : Pos} {Q : Value → Shared → Prop}
    (h : ∀ s', S hb s0 mods g0 env ns vs led g s' → wpAny (model prog w) A (eval e env) (fun v s₁ => ∃ y u, ∃ (i : Nat), ∃ rest vs led g, v = .str y u ∧ occurrences x y 0 x.length 1 = i :: rest ∧ S hb s0 mods g0 env ns vs led g s₁ ∧ (∀ t s', S hb s0 mods g0 env ns vs led g s' → Q (.int i t) s')) E s')
    (hbase : attributeBase (.Constant (.str x) kc p0) n_index env (eval (.Constant (.str x) kc p0) env) = eval (.Constant (.str x) kc p0) env := by with_unfolding_all rfl) (hline : (apos.endLine == pos.line) = true := by with_unfolding_all rfl)
    (hx : backTo pos (starEach [e] env) = [(false, eval e env)] := by with_unfolding_all rfl) :
    wpAny (model prog w) A (eval (.Call (.Attribute (.Constant (.str x) kc p0) n_index apos) [e] [] pos) env) Q E s := by
  refine wpAny_Call_method1_late hbase hline hx (e_str σ fun t s' σ' => ?_)
  refine ⟨"str", "str.index", F.plainAttrs_str, F.slot_str_index, F.type_str_index, typeIs_str _ _ _, (fun _ e => nomatch e), method1_gives F.slot_str_index F.entry_str_index (wpAny_mono (h s' σ') (fun v s₁ q => ?_) fun _ _ e => e)⟩
  obtain ⟨y, u, i, rest, vs, led, g, rfl, ho, σ, k⟩ := q
  exact ⟨typeIs_str _ _ _, F.args_str_index_2 _ _, _, gives_str_index x y t u i rest ho, k _ _ σ.toks⟩

theorem is_sn {x : Str} {t : Tok} {Q : Value → Shared → Prop} (h : Q (.bool false) s) : wpAny (model prog w) A (compareOp .Is (.str x t) .none) Q E s := is_none rfl h
theorem iter_of_str (σ : S hb s0 mods g0 env ns vs led g s) {x : Str} {t : Tok} {Q : Value → Shared → Prop} (hx : x.cps.all (· < 128) = true)
    (h : ∀ it s', S hb s0 mods g0 env ns vs ((it, IsSI x t 0) :: led) g s' → s0.heap.get? it = none → Q (.ref it) s') : wpAny (model prog w) A (pyIter (.str x t)) Q E s := by
  refine wpAny_pyIter_ascii hx ?_
  have q := σ.alloc (a := s.heap.objs.size) (P := IsSI x t 0) (get_size _) (Ext.push (t := s.toks) (o := { cls := .type "str_ascii_iterator", data := .fields #[.str x t, .int 0 0] })) (Heap.get?_push_size _ rfl) ⟨rfl, rfl⟩
  exact h _ _ q (σ.ext.live (get_size _))
theorem iter_of_tuple (σ : S hb s0 mods g0 env ns vs led g s) {a : Addr} {l : List Value} {Q : Value → Shared → Prop} (hl : HT s a l)
    (h : ∀ it s', S hb s0 mods g0 env ns vs ((it, IsTI a 0) :: led) g s' → s0.heap.get? it = none → Q (.ref it) s') : wpAny (model prog w) A (pyIter (.ref a)) Q E s := by
  refine wpAny_pyIter_tuple hl.isTuple ?_
  have q := σ.alloc (a := s.heap.objs.size) (P := IsTI a 0) (get_size _) (Ext.push (t := s.toks) (o := { cls := .type "tuple_iterator", data := .fields #[.ref a, .int 0 0] })) (Heap.get?_push_size _ rfl) ⟨rfl, rfl⟩
  exact h _ _ q (σ.ext.live (get_size _))
theorem iter_of_list (σ : S hb s0 mods g0 env ns vs led g s) {a : Addr} {l : List Value} {Q : Value → Shared → Prop} (hl : Mine.HL s a l)
    (h : ∀ it s', S hb s0 mods g0 env ns vs ((it, IsLI a 0) :: led) g s' → s0.heap.get? it = none → Q (.ref it) s') : wpAny (model prog w) A (pyIter (.ref a)) Q E s := by
  refine wpAny_pyIter_list hl.isList ?_
  have q := σ.alloc (a := s.heap.objs.size) (P := IsLI a 0) (get_size _) (Ext.push (t := s.toks) (o := { cls := .type "list_iterator", data := .fields #[.ref a, .int 0 0] })) (Heap.get?_push_size _ rfl) ⟨rfl, rfl⟩
  exact h _ _ q (σ.ext.live (get_size _))
theorem iter_of_range (σ : S hb s0 mods g0 env ns vs led g s) {n : Int} {tn : Tok} {Q : Value → Shared → Prop} (hn : n < 2 ^ 62) (hn0 : 0 ≤ n)
    (h : ∀ it s', S hb s0 mods g0 env ns vs ((it, IsRI n.toNat 0) :: led) g s' → s0.heap.get? it = none → Q (.ref it) s') :
    wpAny (model prog w) A (call (.type "range") [.int n tn]) (fun r s₁ => wpAny (model prog w) A (pyIter r) Q E s₁) E s := by
  refine call_range_1 ?_
  refine wpAny_pyIter_range (a := 0) (b := n) (c := 1) (t := s.toks) (u := tn) (v := s.toks + 1) (Heap.get?_push_size _ rfl) (small_one (by decide) (by decide) (by lia) hn) ?_
  have σ₀ := σ.grow (Ext.push (t := s.toks + 1 + 1) (o := { cls := .type "range", data := .fields #[.int 0 s.toks, .int n tn, .int 1 (s.toks + 1)] }))
  generalize ({ s with heap := s.heap.push { cls := .type "range", data := .fields #[.int 0 s.toks, .int n tn, .int 1 (s.toks + 1)] }, toks := s.toks + 1 + 1 } : Shared) = r₀ at *
  have hsz : Builtin.Range.rangeSize 0 n 1 = (n.toNat : Int) := by rw [rangeSize_nat, Int.sub_zero]
  rw [hsz]
  have q := σ₀.alloc (P := IsRI n.toNat 0) (get_size _) (Ext.push (t := r₀.toks) (o := { cls := .type "range_iterator", data := .fields #[rawInt 0, rawInt (n.toNat : Int), rawInt 1] })) (Heap.get?_push_size _ rfl) (by unfold IsRI; simp)
  exact h _ _ q (σ₀.ext.live (get_size _))

noncomputable def EcAll (env : Env) : List Str → Prop
  | [] => True
  | x :: r => (∃ c, EC env x c) ∧ EcAll env r
theorem EcAll.mem : ∀ {l : List Str}, EcAll env l → ∀ x ∈ l, ∃ c, EC env x c
  | _ :: _, h, x, hx => by
    rcases List.mem_cons.mp hx with rfl | hx
    · exact h.1
    · exact EcAll.mem h.2 x hx
theorem hf_of {names : List (Str × NameKind)} (l : List Str) (h : names.all (fun y => y.2 != .free || l.contains y.1) = true) (hl : EcAll env l) : ∀ y ∈ names, y.2 = .free → ∃ c, env.cells.lookup y.1 = some c := by
  intro y hy hfr
  have := List.all_eq_true.mp h y hy
  rw [hfr] at this
  simp at this
  obtain ⟨c, ec⟩ := hl.mem _ this
  exact ⟨c, ec.at_⟩

theorem ec_in {scope : Scope} {C : Addr} (_σ : S hb s0 mods g0 (compEnvC scope (clo env.cells scope.names []) C env) ns vs led g s) {x : Str} {c : Addr} (hk : env.scope.kind = .function) (ec : EC env x c) (hf : scope.names.lookup x = some .free) :
    EC (compEnvC scope (clo env.cells scope.names []) C env) x c := ec.comp hk hf

theorem sp_ct {C : Prop} [Decidable C] {X Y : Prop} (h : X) (hc : C) : (decide C = true → X) ∧ (decide C = false → Y) := ⟨fun _ => h, fun e => absurd hc (of_decide_eq_false e)⟩
theorem sp_cf {C : Prop} [Decidable C] {X Y : Prop} (h : Y) (hc : ¬ C) : (decide C = true → X) ∧ (decide C = false → Y) := ⟨fun e => absurd (of_decide_eq_true e) hc, fun _ => h⟩
noncomputable def IsW (ns : List Int) (o : Obj) : Prop := o.cls = .type "list" ∧ ∃ vs n, o.data = .seq vs.toArray n ∧ IntsAre vs ns
theorem ints_at {l : List Value} {is : List Int} (h : IntsAre l is) {j : Nat} {i : Int} (e : is[j]? = some i) : ∃ t, l[j]? = some (.int i t) := by
  have hj : j < is.length := by
    rcases Nat.lt_or_ge j is.length with q | q
    · exact q
    · rw [List.getElem?_eq_none q] at e; cases e
  obtain ⟨h1, t, e1⟩ := ints_get h (j := j) (by rw [ints_len h]; exact hj)
  rw [List.getElem?_eq_getElem hj] at e
  refine ⟨t, ?_⟩
  rw [List.getElem?_eq_getElem (by rw [ints_len h]; exact hj), e1]
  simp at e; rw [e]
theorem ints_set {l : List Value} {is : List Int} (h : IntsAre l is) (j : Nat) (i : Int) (t : Tok) : IntsAre (l.set j (.int i t)) (is.set j i) := by
  induction h generalizing j with
  | nil => simpa using IntsAre.nil
  | cons a u _ ih =>
    cases j with
    | zero => exact .cons _ _ (by assumption)
    | succ j => exact .cons _ _ (ih j)
theorem ints_snoc {l : List Value} {is : List Int} (h : IntsAre l is) (i : Int) (t : Tok) : IntsAre (l ++ [.int i t]) (is ++ [i]) := by
  induction h with
  | nil => exact .cons _ _ .nil
  | cons a u _ ih => exact .cons _ _ ih
theorem ints_snoc_inv : ∀ {is : List Int} {l : List Value} {i : Int}, IntsAre l (is ++ [i]) → ∃ l' t, l = l' ++ [.int i t] ∧ IntsAre l' is
  | [], l, i, h => by
    cases h with | cons _ t h => cases h; exact ⟨[], t, rfl, .nil⟩
  | a :: r, l, i, h => by
    cases h with
    | cons _ t h =>
      obtain ⟨l', u, rfl, h'⟩ := ints_snoc_inv h
      exact ⟨_ :: l', u, rfl, .cons _ _ h'⟩
theorem S.ixW (σ : S hb s0 mods g0 env ns vs led g s) {value slice : Expr} {a : Addr} {l : List Int} {k : Int} {u : Tok} {x : Int} {Q : Value → Shared → Prop} (m : Mem led a (IsW l)) (h0 : 0 ≤ k) (hfit : k < 2 ^ 63) (hx : l[k.toNat]? = some x)
    (h : ∀ t, Q (.int x t) s)
    (hs : subscripted slice false (.ref a) (.int k u) = operate [.ref a, .int k u] (getItem (.ref a) (.int k u)) := by with_unfolding_all rfl) : wpAny (model prog w) A (subscriptTail value slice (.ref a) (.int k u)) Q E s := by
  obtain ⟨o, e, hc, vs, n, hd, hi⟩ := σ.get m
  have hl : s.heap.IsList a vs.toArray := ⟨o, e, hc, n, hd⟩
  obtain ⟨t, ht⟩ := ints_at hi hx
  exact tail_any hl.typeIs PySem.F.slot_list_getitem.lookup (wpAny_getItem_list hl h0 hfit (by simpa using ht) (h t)) hs
theorem S.stW (σ : S hb s0 mods g0 env ns vs led g s) {a : Addr} {l : List Int} {k : Int} {u t : Tok} {x : Int} {led' : Led} {Q : Unit → Shared → Prop} (up : Upd led a (IsW l) (IsW (l.set k.toNat x)) led') (h0 : 0 ≤ k) (hfit : k < 2 ^ 63) (hn : k.toNat < l.length)
    (h : ∀ s', S hb s0 mods g0 env ns vs led' g s' → Q () s') : wpAny (model prog w) A (setItem (.ref a) (.int k u) (.int x t)) Q E s := by
  obtain ⟨o, e, hc, vs, n, hd, hi⟩ := σ.get up.toMem
  have hl : s.heap.IsList a vs.toArray := ⟨o, e, hc, n, hd⟩
  refine wpAny_setItem_list hl h0 hfit (by simp only [List.size_toArray]; rw [ints_len hi]; lia) fun h' hl' hs => h _ ?_
  obtain ⟨o', e', hc', n', hd'⟩ := hl'
  refine σ.mod up (.same (t := s.toks) hs (by rw [e']; exact Option.some_ne_none _)) e' ⟨hc', vs.set k.toNat (.int x t), n', ?_, ints_set hi _ _ _⟩
  rw [hd']; congr 1; apply Array.ext'; simp
end
noncomputable def ClsOk (K : Frag) (C f : Addr) (attrs : List Str) : Bool :=
  makesIn K C && findIn K (.ref C) "__init__" == some (some (.ref f)) && isFn K (.ref f) && keepIn K (.ref C) && plainGet K C "" && hasDictIn K C && attrs.all (fun a => findIn K (.ref C) a == some none && takerIn K C a == some none) &&
    findIn K (.ref C) "__setattr__" == some (some (.builtin "object.__setattr__")) && plainOver K C
noncomputable def MethOk (K : Frag) (C f : Addr) (name : Str) : Bool := findIn K (.ref C) name == some (some (.ref f)) && isFn K (.ref f) && keepIn K (.ref f)
noncomputable def PropOk (K : Frag) (C p f : Addr) (name : Str) : Bool := findIn K (.ref C) name == some (some (.ref p)) && specialIn K (.ref p) "__get__" == some (some (.builtin "property.__get__")) && takesIn K (.ref p) == some true && (recIn K p "property").any (fun l => l.head? == some (.ref f))
structure IsA (n : Nat) (f : Str → Option Value) (o : Obj) : Prop where
  is : ∃ es k, o = dictOf es k ∧ es.length ≤ n ∧ es.any (·.refKey) = false ∧ ∀ name, (es.find? (·.key.isStr name)).map (·.val) = f name
noncomputable def setA (f : Str → Option Value) (x : Str) (v : Value) : Str → Option Value := fun y => if y = x then some v else f y
theorem getL_of {es : List DictEntry} (h : es.any (·.refKey) = false) {f : Str → Option Value} (hf : ∀ name, (es.find? (·.key.isStr name)).map (·.val) = f name) (name : Str) : getL name es = some (f name) := by
  rw [← hf name]; unfold getL
  cases e : es.find? (·.key.isStr name) with
  | some x => rfl
  | none => simp only [Option.map_none]; rw [if_neg (by rw [h]; decide)]
theorem putL_len (name : Str) (hsh : Int) (key v : Value) : ∀ es : List DictEntry, (putL name hsh key v es).length ≤ es.length + 1
  | [] => by simp [putL]
  | e :: r => by
    unfold putL; split
    · simp
    · exact Nat.succ_le_succ (putL_len name hsh key v r)
theorem putL_ref (name : Str) (hsh : Int) (t : Tok) (v : Value) : ∀ es : List DictEntry, es.any (·.refKey) = false → (putL name hsh (.str name t) v es).any (·.refKey) = false
  | [], _ => by simp [putL, DictEntry.refKey]
  | e :: r, h => by
    simp only [List.any_cons, Bool.or_eq_false_iff] at h
    unfold putL; split
    · simp only [List.any_cons, Bool.or_eq_false_iff]; exact ⟨h.1, h.2⟩
    · simp only [List.any_cons, Bool.or_eq_false_iff]; exact ⟨h.1, putL_ref name hsh t v r h.2⟩
theorem isStr_inj {k : Value} {x y : Str} (h1 : k.isStr x = true) (h2 : k.isStr y = true) : x = y := by
  cases k with
  | str z t => simp [Value.isStr] at h1 h2; exact h1.symm.trans h2
  | _ => simp [Value.isStr] at h1
theorem putL_look (name : Str) (hsh : Int) (t : Tok) (v : Value) (y : Str) : ∀ es : List DictEntry, ((putL name hsh (.str name t) v es).find? (·.key.isStr y)).map (·.val) = if y = name then some v else (es.find? (·.key.isStr y)).map (·.val)
  | [] => by
    unfold putL
    by_cases e : y = name
    · subst e; simp [Value.isStr]
    · have : Value.isStr (.str name t) y = false := by
        cases q : Value.isStr (.str name t) y with
        | false => rfl
        | true => exact absurd (isStr_inj q (by simp [Value.isStr])) e
      simp [this, e]
  | e :: r => by
    have ih := putL_look name hsh t v y r
    unfold putL
    cases h : e.key.isStr name with
    | true =>
      simp only [if_true, List.find?_cons]
      by_cases q : y = name
      · subst q; simp [h]
      · have : e.key.isStr y = false := by
          cases z : e.key.isStr y with
          | false => rfl
          | true => exact absurd (isStr_inj z h) q
        simp [this, q]
    | false =>
      simp only [Bool.false_eq_true, if_false, List.find?_cons]
      cases z : e.key.isStr y with
      | true =>
        have : ¬ y = name := by rintro rfl; rw [h] at z; cases z
        simp [this]
      | false => exact ih
theorem ne_some {α : Type} {o : Option α} {a : α} (h : o = some a) : o ≠ none := by rw [h]; exact Option.some_ne_none _
theorem IsA.new : IsA 0 (fun _ => none) emptyDict := ⟨[], 0, rfl, Nat.le_refl _, rfl, fun _ => rfl⟩
theorem IsA.put {n : Nat} {f : Str → Option Value} {o : Obj} (x : IsA n f o) (name : Str) (hsh : Int) (t : Tok) (v : Value) : IsA (n + 1) (setA f name v) (Obj.putName name hsh (.str name t) v o) := by
  obtain ⟨es, k, rfl, h1, h2, h3⟩ := x
  refine ⟨_, _, putName_dict .., Nat.le_trans (putL_len ..) (Nat.succ_le_succ h1), putL_ref _ _ _ _ _ h2, fun y => ?_⟩
  rw [putL_look]; unfold setA; rw [h3]
section
variable {prog : Program} {w : World} {A : Around} {E : Value → Shared → Prop}
variable {hb : Heap} {s0 : Shared} {mods : List Addr} {g0 : FH} {env : Env} {ns : List Str} {vs : List (Option Value)} {led : Led} {g : FH} {s s' : Shared} {K : Frag}
structure Inst (s : Shared) (x C : Addr) (n : Nat) (f : Str → Option Value) : Prop where
  is : ∃ dx od, s.heap.get? x = some (instObj C dx) ∧ s.heap.get? dx = some od ∧ IsA n f od
theorem Inst.at {x C : Addr} {n : Nat} {f : Str → Option Value} (h : Inst s x C n f) : ∃ es k, InstAt s.heap x (instObj C h.is.choose) C (some (dictOf es k)) ∧ (∀ name, getL name es = some (f name)) := by
  obtain ⟨od, h1, h2, es, k, rfl, _, h4, h5⟩ := h.is.choose_spec
  exact ⟨es, k, ⟨h1, rfl, rfl, h2⟩, getL_of h4 h5⟩
theorem a_own (σ : S hb s0 mods g0 env ns vs led g s) (X : K.In hb) {C f0 : Addr} {attrs : List Str} (ok : ClsOk K C f0 attrs = true) {x : Addr} {n : Nat} {f : Str → Option Value} {name : Str} {v : Value} {expr : Bool} {Q : Value → Shared → Prop}
    (I : Inst s x C n f) (hm : name ∈ attrs) (hv : f name = some v) (hh : handedIn v = true) (h : ∀ s', S hb s0 mods g0 env ns vs led g s' → Q v s') : wpAny (model prog w) A (getAttr (.ref x) name expr) Q E s := by
  unfold ClsOk at ok
  simp only [Bool.and_eq_true, beq_iff_eq, List.all_eq_true] at ok
  obtain ⟨⟨⟨⟨⟨⟨⟨⟨k1, k2⟩, k3⟩, k4⟩, k5⟩, k6⟩, k7⟩, k8⟩, k9⟩ := ok
  obtain ⟨es, k, Ia, hg⟩ := I.at
  exact get_value (fun a o e => σ.hbs a o (X a o e)) Ia (plainGet_of k5).1 (findObj_own k6 (k7 name hm).1 rfl (by show getL name es = _; rw [hg, hv])) hh (h _ σ.toks)
noncomputable abbrev kGet (prog : Program) (w : World) (A : Around) (E : Value → Shared → Prop) (attr : Str) (Q : Value → Shared → Prop) : Value → Shared → Prop := fun v s₁ => wpAny (model prog w) A (getAttr v attr true) Q E s₁
theorem e_attr {o : Expr} {attr : Str} {pos : Pos} {Q : Value → Shared → Prop} (h : wpAny (model prog w) A (eval o env) (kGet prog w A E attr Q) E s)
    (he : eval (.Attribute o attr pos) env = (do
      let v ← eval o env
      standAt pos.atName
      let r ← holding [v] (getAttr v attr true)
      letTemporaryGo o v r
      pure r) := by with_unfolding_all rfl) : wpAny (model prog w) A (eval (.Attribute o attr pos) env) Q E s := Attribute_any_ h he
theorem a_set (σ : S hb s0 mods g0 env ns vs led g s) (X : K.In hb) {C f0 : Addr} {attrs : List Str} (ok : ClsOk K C f0 attrs = true) {x dx : Addr} {n : Nat} {f : Str → Option Value} {name : Str} {v : Value} {led' : Led} {Q : Unit → Shared → Prop}
    (hx : s.heap.get? x = some (instObj C dx)) (up : Upd led dx (IsA n f) (IsA (n + 1) (setA f name v)) led') (hn : n ≤ 100) (hm : name ∈ attrs) (h : ∀ s', S hb s0 mods g0 env ns vs led' g s' → Q () s') : wpAny (model prog w) A (setAttr (.ref x) name v) Q E s := by
  unfold ClsOk at ok
  simp only [Bool.and_eq_true, beq_iff_eq, List.all_eq_true] at ok
  obtain ⟨⟨⟨⟨⟨⟨⟨⟨k1, k2⟩, k3⟩, k4⟩, k5⟩, k6⟩, k7⟩, k8⟩, k9⟩ := ok
  obtain ⟨od, hdx, hA⟩ := σ.get up.toMem
  have hA0 := hA
  obtain ⟨es, k, rfl, h1, h2, h3⟩ := hA
  have Ia : InstAt s.heap x (instObj C dx) C (some (dictOf es k)) := ⟨hx, rfl, rfl, hdx⟩
  have XK : K.In s.heap := fun a o e => σ.hbs a o (X a o e)
  refine set_plain XK Ia k8 ?_
  refine osa_open (s := { s with toks := s.toks + 1 }) (ox := instObj C dx) (od := some (dictOf es k)) XK Ia k9 (k7 name hm).2 fun b => ?_
  obtain ⟨cd, hc, hd'⟩ := any_some k6
  refine wpAny_bind (wpAny_pure (wpAny_bind (wpAny_bind (wpAny_loadPart hx (wpAny_bind ((looks_clsIn (h := ({ s with toks := s.toks + 1 } : Shared).heap) XK hc).here ?_))))))
  rw [hd']
  refine wpAny_pure (a := some dx) (wpAny_bind (wpAny_pure (wpAny_bind ?_)))
  unfold nsSet
  refine wpAny_bind (wpAny_bind (wpAny_askSetting (wpAny_pure (wpAny_bind (wpAny_mkText (wpAny_bind (wpAny_loadPart hdx ?_)))))))
  dsimp only
  have c : (!es.toArray.any (·.key.isStr name) && es.toArray.any (·.refKey)) = false := by
    rw [← Array.any_toList, ← Array.any_toList]; rw [h2]; simp
  rw [aRefKeyMayBeTheName_at, c]
  have hA' := hA0.put name (PyData.keyHash w.params name) (s.toks + 1) v
  have hup := Heap.get?_update_self (f := Obj.putName name (PyData.keyHash w.params name) (.str name (s.toks + 1)) v) (h := s.heap) (a := dx) hdx (by rw [putName_dict]; rfl)
  refine wpAny_updatePart hdx ?_
  refine wpAny_bind (wpAny_lookBehind hup (by rw [putName_dict]; exact pastItsLine_dict (by have := putL_len name (PyData.keyHash w.params name) (.str name (s.toks + 1)) v es; have hsl : sizeLine = 16777216 := rfl; simp only [List.size_toArray]; lia)) ?_)
  refine wpAny_pure ?_
  refine h _ (σ.mod up (.same (t := s.toks + 1 + 1) (Heap.SameBut.update ..) (ne_some hup)) hup hA')
theorem k_make (σ : S hb s0 mods g0 env ns vs led g s) (X : K.In hb) {C f0 : Addr} {attrs : List Str} (ok : ClsOk K C f0 attrs = true) {rest : List Value} {Q : Value → Shared → Prop}
    (h : ∀ x dx s', S hb s0 mods g0 env ns vs ((dx, IsA 0 fun _ => none) :: led) (g.put x (instObj C dx)) s' → s0.heap.get? dx = none → GLe g (g.put x (instObj C dx)) →
      codeAny (model prog w) (A.under (.builtin "type.__call__" ⟨.ref C :: rest, []⟩)) (.call (.ref f0) ⟨.ref x :: rest, []⟩) (InitBack x (RV Q E)) s') :
    wpAny (model prog w) A (call (.ref C) rest) Q E s := by
  unfold ClsOk at ok
  simp only [Bool.and_eq_true, beq_iff_eq, List.all_eq_true] at ok
  obtain ⟨⟨⟨⟨⟨⟨⟨⟨k1, k2⟩, k3⟩, k4⟩, k5⟩, k6⟩, k7⟩, k8⟩, k9⟩ := ok
  have XK : K.In s.heap := fun a o e => σ.hbs a o (X a o e)
  refine wpAny_call ?_
  have q1 := σ.alloc (a := s.heap.objs.size) (P := IsA 0 fun _ => none) (get_size _) (Ext.push (t := s.toks) (o := emptyDict)) (Heap.get?_push_size _ rfl) IsA.new
  have q2 := q1.ice (a := (s.heap.push emptyDict).objs.size) (get_size _) (Ext.push (t := s.toks) (o := instObj C s.heap.objs.size)) (Heap.get?_push_size _ rfl)
  rw [Heap.size_push] at q2
  obtain ⟨hh, gg, d, t, os⟩ := s
  exact make_core (makes_of XK k1) (looks_findIn XK k2) (fun self => bind_fn XK self (beq_iff_eq.mp k3)) (.inl rfl) (h _ _ _ q2.1 (σ.ext.live (get_size _)) q2.2)
theorem e_make (σ : S hb s0 mods g0 env ns vs led g s) {gs : List Str} (hG : EnvG env gs) (X : K.In hb) {C f0 : Addr} {attrs : List Str} (ok : ClsOk K C f0 attrs = true) {x : Str} {np pos : Pos} {e : Expr} {rest : List Expr} {Q : Value → Shared → Prop} (gv : GV hb x (.ref C)) (hm : x ∈ gs)
    (h : wpAny (model prog w) A (spliced (backTo pos (starEach (e :: rest) env))) (kCall prog w A E hb C Q) E s)
    (he : starEach (e :: rest) env = (false, eval e env) :: starEach rest env := by with_unfolding_all rfl) (hplain : (backTo pos (starEach rest env)).any (·.1) = false := by with_unfolding_all rfl) :
    wpAny (model prog w) A (eval (.Call (.Name x np) (e :: rest) [] pos) env) Q E s := by
  unfold ClsOk at ok
  simp only [Bool.and_eq_true, beq_iff_eq, List.all_eq_true] at ok
  obtain ⟨⟨⟨⟨⟨⟨⟨⟨k1, k2⟩, k3⟩, k4⟩, k5⟩, k6⟩, k7⟩, k8⟩, k9⟩ := ok
  refine wpAny_Call_NameR (w_global σ hG gv hm ?_)
  exact callWith_K (first := []) (h₀ := hb) X k4 (wpAny_mono h (fun vs s₁ q => ⟨fun a o z => q.1 _ _ (X a o z), q.2⟩) fun _ _ q => q) he hplain
theorem e_make0 (σ : S hb s0 mods g0 env ns vs led g s) {gs : List Str} (hG : EnvG env gs) (X : K.In hb) {C f0 : Addr} {attrs : List Str} (ok : ClsOk K C f0 attrs = true) {x : Str} {np pos : Pos} {Q : Value → Shared → Prop} (gv : GV hb x (.ref C)) (hm : x ∈ gs)
    (h : wpAny (model prog w) A (call (.ref C) []) Q E s) : wpAny (model prog w) A (eval (.Call (.Name x np) [] [] pos) env) Q E s := by
  unfold ClsOk at ok
  simp only [Bool.and_eq_true, beq_iff_eq, List.all_eq_true] at ok
  obtain ⟨⟨⟨⟨⟨⟨⟨⟨k1, k2⟩, k3⟩, k4⟩, k5⟩, k6⟩, k7⟩, k8⟩, k9⟩ := ok
  refine wpAny_Call_NameR (w_global σ hG gv hm ?_)
  exact callWith_K0 (first := []) (fun a o z => σ.hbs a o (X a o z)) k4 h
theorem e_meth0 (X : K.In hb) {C f0 : Addr} {attrs : List Str} (ok : ClsOk K C f0 attrs = true) {o : Expr} {name : Str} {fm : Addr} (mo : MethOk K C fm name = true) {apos pos : Pos} {pl : Sem Bool} {Q : Value → Shared → Prop}
    (h : wpAny (model prog w) A (eval o env) (fun ov s₁ => ∃ x n f, ov = .ref x ∧ Inst s₁ x C n f ∧ f name = none ∧ (∀ a o, hb.get? a = some o → s₁.heap.get? a = some o) ∧ wpAny (model prog w) A (call (.ref fm) [.ref x]) Q E s₁) E s)
    (he : eval (.Call (.Attribute o name apos) [] [] pos) env = (do
      let ov ← eval o env
      standAt apos.atName
      let (f, first) ← holding [ov] (getMethod ov name pl)
      callWith pos f first (backTo pos (starEach [] env)) []) := by with_unfolding_all rfl) :
    wpAny (model prog w) A (eval (.Call (.Attribute o name apos) [] [] pos) env) Q E s := by
  unfold ClsOk at ok
  unfold MethOk at mo
  simp only [Bool.and_eq_true, beq_iff_eq, List.all_eq_true] at ok mo
  obtain ⟨⟨⟨⟨⟨⟨⟨⟨k1, k2⟩, k3⟩, k4⟩, k5⟩, k6⟩, k7⟩, k8⟩, k9⟩ := ok
  obtain ⟨⟨m1, m2⟩, m3⟩ := mo
  refine MethodCall_ (wpAny_mono h (fun ov s₁ q => ?_) fun _ _ q => q) he
  obtain ⟨x, n, f, rfl, I, hn, hbs, q⟩ := q
  obtain ⟨es, k, Ia, hg⟩ := I.at
  have XK : K.In s₁.heap := fun a o e => hbs a o (X a o e)
  refine method_fn XK Ia (plainGet_of k5).1 (plainGet_of k5).2 m1 (beq_iff_eq.mp m2) (by show (getL name es).map _ = _; rw [hg, hn]; rfl) ?_
  exact callWith_K0 (first := [.ref x]) XK m3 q
theorem a_prop (σ : S hb s0 mods g0 env ns vs led g s) (X : K.In hb) {C f0 : Addr} {attrs : List Str} (ok : ClsOk K C f0 attrs = true) {x p fget : Addr} {n : Nat} {f : Str → Option Value} {name : Str} {expr : Bool} (po : PropOk K C p fget name = true) {Q : Value → Shared → Prop}
    (I : Inst s x C n f) (h : ∀ s', S hb s0 mods g0 env ns vs led g s' → codeAny (model prog w) A.in1 (.call (.ref fget) ⟨[.ref x], []⟩) (fun r s' => match r with | .ok (.ret v) => handedIn v = true ∧ Q v s' | _ => False) s') :
    wpAny (model prog w) A (getAttr (.ref x) name expr) Q E s := by
  unfold ClsOk at ok
  unfold PropOk at po
  simp only [Bool.and_eq_true, beq_iff_eq, List.all_eq_true] at ok po
  obtain ⟨⟨⟨⟨⟨⟨⟨⟨k1, k2⟩, k3⟩, k4⟩, k5⟩, k6⟩, k7⟩, k8⟩, k9⟩ := ok
  obtain ⟨⟨⟨p1, p2⟩, p3⟩, p4⟩ := po
  obtain ⟨es, k, Ia, hg⟩ := I.at
  have XK : K.In s.heap := fun a o e => σ.hbs a o (X a o e)
  obtain ⟨l, hl, hh⟩ := any_some p4
  obtain ⟨rest, hl'⟩ : ∃ rest, l = .ref fget :: rest := by
    cases l with
    | nil => cases hh
    | cons a r => have : a = .ref fget := by simpa using hh
                  exact ⟨r, by rw [this]⟩
  subst hl'
  refine get_bind XK Ia (plainGet_of k5).1 (findObj_data (by obtain ⟨cd, hc, _⟩ := any_some k6; rw [hc]; rfl) p1 p2 p3) (plainGet_of k5).2 (wpAny_call (prop_get (s := { s with toks := s.toks + 1 }) XK hl ?_))
  refine codeAny_mono (h _ σ.toks) fun r s' q => ?_
  match r, q with
  | .ok (.ret v), q => show wpAny _ _ (handedOut v) _ _ _; rw [handedOut_of q.1]; exact wpAny_pure q.2
theorem room_under {k : Nat} {C : Addr} {rest : List Value} (h : Room (k + 1) A) : Room k (A.under (.builtin "type.__call__" ⟨.ref C :: rest, []⟩)) := by
  have e1 : (Code.builtin "type.__call__" ⟨.ref C :: rest, []⟩).weight = 1 := by rfl
  have e2 : (Code.builtin "type.__call__" ⟨.ref C :: rest, []⟩).cUnits = 1 := by rfl
  refine ⟨h.1, ?_, ?_⟩
  · have := h.2.1; show A.depth + (Code.builtin "type.__call__" ⟨.ref C :: rest, []⟩).weight + k < _; rw [e1]; exact dp1 this
  · have := h.2.2; show A.units + (Code.builtin "type.__call__" ⟨.ref C :: rest, []⟩).cUnits + 8 * k + 8 < _; rw [e2]; exact un1 this (by decide)
end
noncomputable abbrev attrsP : List Str := [n_plain, n_first, n_second]
noncomputable abbrev attrsF : List Str := [n_kind, "locals", n_body]
noncomputable abbrev attrsM : List Str := ["kinds", "imports", "funcs", "tables", "memories", "globals", "exports", "start", "elems", "datas", "customs"]
structure Wob (hb : Heap) (K : Frag) : Prop where
  kin : K.In hb
  P : ClsOk K 209 186 attrsP = true
  code : PropOk K 209 194 193 "code" = true
  parts : MethOk K 209 199 "parts" = true
  F : ClsOk K 45 35 attrsF = true
  plain : MethOk K 45 42 n_plain = true
  M : ClsOk K 162 63 attrsM = true
  dflt : ∃ o n, hb.get? 179 = some o ∧ o.data = .seq #[.none, .none] n
section
variable {prog : Program} {w : World} {A : Around} {E : Value → Shared → Prop}
variable {hb : Heap} {s0 : Shared} {mods : List Addr} {g0 : FH} {env : Env} {ns : List Str} {vs : List (Option Value)} {led : Led} {g : FH} {s s' : Shared}
theorem st_slice {a sl b : Addr} {xs ys zs : List Value} {vl vu : Value} {lo hi : Option Int} {Q : Unit → Shared → Prop} (hl : HL s a xs) (hs : s.heap.IsSliceOf sl vl vu .none) (pl : IsPart vl lo) (pu : IsPart vu hi) (hb' : HL s b ys) (hne : a ≠ b) (hsz : xs.length + ys.length ≤ 100000)
    (h1 : (sliceBounds lo hi none xs.length).2.2 = 1)
    (hz : xs.take (sliceBounds lo hi none xs.length).1.toNat ++ ys ++ xs.drop (max (sliceBounds lo hi none xs.length).1 (sliceBounds lo hi none xs.length).2.1).toNat = zs)
    (h : ∀ s', Ext [a] s s' → HL s' a zs → Q () s') : wpAny (model prog w) A (setItem (.ref a) (.ref sl) (.ref b)) Q E s := by
  obtain ⟨n, ho⟩ := hl.plain
  obtain ⟨n', ho'⟩ := hb'.plain
  obtain ⟨os, hos, hcs, hds⟩ := id hs
  have hTs : s.TypeIs (.ref sl) "slice" := ⟨os, hos, hcs⟩
  have hsl : sizeLine = 16777216 := rfl
  unfold setItem
  try with_reducible refine wpAny_holding ?_
  first | refine wpAny_bind (wpAny_pure ?_) | skip
  refine wpAny_bind (wpAny_sequenceKey hl.isList.typeIs (by decide) ?_)
  refine wpAny_bind (wpAny_callSpecial?_slot (name := Str.ofString "__setitem__") hl.isList.typeIs slot_list_setitem
    (wpAny_call_entry slot_list_setitem hl.isList.typeIs entry_list_setitem ?_ (args_list_setitem _ _ _)))
  show wpAny _ _ (Builtin.List.listSubscript? (.ref sl) >>= _) _ _ s
  refine wpAny_bind ?_
  unfold Builtin.List.listSubscript?
  refine wpAny_bind (wpAny_specialOf hTs slice_no_index ?_)
  simp only [Option.isNone_none, if_true]
  refine wpAny_pure ?_
  show wpAny _ _ (typeOf (.ref sl) >>= _) _ _ s
  refine wpAny_bind (wpAny_typeOf hTs ?_)
  rw [if_neg (by decide)]
  rw [listSliceParts_eq]
  have hstep : ¬ ((rawPart none == rawInt 0) = true) := Bool.false_ne_true
  refine wpAny_bind (wpAny_bind (wpAny_field hos hds (x := .none) rfl (wpAny_bind (wpAny_listPart .none ?_))))
  rw [if_neg hstep]
  refine wpAny_bind (wpAny_field hos hds (x := vl) rfl (wpAny_bind (wpAny_listPart pl ?_)))
  refine wpAny_bind (wpAny_field hos hds (x := vu) rfl (wpAny_bind (wpAny_listPart pu (wpAny_pure ?_))))
  have hsame : Builtin.List.listSameRef (.ref a) (.ref b) = false := by
    show (a == b) = false
    simpa using hne
  rw [hsame, if_neg Bool.false_ne_true]
  refine wpAny_bind ?_
  unfold Builtin.List.listAllItems
  refine wpAny_bind (wpAny_typeOf hb'.isList.typeIs ?_)
  rw [if_pos (by decide)]
  refine listItems_at ho' rfl ?_
  refine wpAny_bind (listItems_at ho rfl ?_)
  refine wpAny_bind (wpAny_of_eq (sliceIndices_raw lo hi none _ (by simp)) ?_)
  rw [show xs.toArray.size = xs.length by simp]
  rw [if_pos (by rw [h1]; rfl)]
  have hlong : Builtin.List.listTooLong (xs.length + ys.toArray.size) = false := by
    simp only [Builtin.List.listTooLong, List.size_toArray]; simp; lia
  refine wpAny_bind (wpAny_rule ?_)
  rw [hlong, if_neg Bool.false_ne_true]
  have hcalc : (fun l : Array Value => l.extract 0 (sliceBounds lo hi none xs.length).1.toNat ++ ys.toArray ++ l.extract (max (sliceBounds lo hi none xs.length).1 (sliceBounds lo hi none xs.length).2.1).toNat) xs.toArray = zs.toArray := by
    rw [← hz]; apply Array.ext'; simp [List.take_of_length_le]
  have u := hl.upd (l' := zs) (t := s.toks) (f := fun l : Array Value => l.extract 0 (sliceBounds lo hi none xs.length).1.toNat ++ ys.toArray ++ l.extract (max (sliceBounds lo hi none xs.length).1 (sliceBounds lo hi none xs.length).2.1).toNat) hcalc
  have hzl : zs.length ≤ xs.length + ys.length + xs.length := by rw [← hz]; simp; exact mn3 _ _ _ _
  refine wpAny_bind (listUpdate_at ho rfl ?_ (by simp only [List.size_toArray]; lia) (by have hs2 := congrArg Array.size hcalc; simp only [List.size_toArray] at hs2; refine Nat.le_trans (Nat.le_of_eq hs2) ?_; lia))
  refine wpAny_bind (wpAny_letGo (wpAny_pure ⟨_, rfl, wpAny_pure ?_⟩))
  exact h _ u.1 u.2
theorem st_last2 {a sl b : Addr} {xs ys : List Value} {p q : Value} {t : Tok} {Q : Unit → Shared → Prop} (hl : HL s a (xs ++ [p, q])) (hs : s.heap.IsSliceOf sl (.int (-2) t) .none .none) (hb' : HL s b ys) (hne : a ≠ b) (hsz : xs.length + 2 + ys.length ≤ 100000)
    (h : ∀ s', Ext [a] s s' → HL s' a (xs ++ ys) → Q () s') : wpAny (model prog w) A (setItem (.ref a) (.ref sl) (.ref b)) Q E s := by
  have e1 : (sliceBounds (some (-2)) none none (xs ++ [p, q]).length).1 = (xs.length : Int) := by
    simp [sliceBounds] <;> lia
  have e2 : (sliceBounds (some (-2)) none none (xs ++ [p, q]).length).2.1 = (xs.length : Int) + 2 := by
    simp [sliceBounds]
  refine st_slice hl hs (.int _ _) .none hb' hne (by simp; lia) rfl ?_ h
  rw [e1, e2]
  have e3 := mx_2 xs.length
  rw [e3, Int.toNat_natCast]
  have : xs.length + 2 = (xs ++ [p, q]).length := by simp
  rw [this, List.drop_length]; simp
theorem st_whole {a sl b : Addr} {xs ys : List Value} {Q : Unit → Shared → Prop} (hl : HL s a xs) (hs : s.heap.IsSliceOf sl .none .none .none) (hb' : HL s b ys) (hne : a ≠ b) (hsz : xs.length + ys.length ≤ 100000)
    (h : ∀ s', Ext [a] s s' → HL s' a ys → Q () s') : wpAny (model prog w) A (setItem (.ref a) (.ref sl) (.ref b)) Q E s := by
  refine st_slice hl hs .none .none hb' hne hsz rfl ?_ h
  have e1 : (sliceBounds none none none xs.length).1 = 0 := by simp [sliceBounds]
  have e2 : (sliceBounds none none none xs.length).2.1 = (xs.length : Int) := by simp [sliceBounds]
  rw [e1, e2]
  have := mx_0 xs.length
  rw [this]; simp
end
section
variable {prog : Program} {w : World} {A : Around} {E : Value → Shared → Prop}
variable {hb : Heap} {s0 : Shared} {mods : List Addr} {g0 : FH} {env : Env} {ns : List Str} {vs : List (Option Value)} {led : Led} {g : FH} {s s' : Shared}
theorem k_listL (σ : S hb s0 mods g0 env ns vs led g s) {a : Addr} {l : List Value} {Q : Value → Shared → Prop} (hl : s.heap.IsList a l.toArray) (hsz : l.length ≤ sizeLine)
    (h : ∀ c s', S hb s0 mods g0 env ns vs ((c, IsL l) :: led) g s' → s0.heap.get? c = none → Q (.ref c) s') : wpAny (model prog w) A (call (.type "list") [.ref a]) Q E s := by
  obtain ⟨o, ho, hc, n, hd⟩ := hl
  refine call_list_seq a (.inl rfl) ho hc hd (fun h' c' hk hn => ?_) (by simpa using hsz)
  have q := σ.alloc (a := s.heap.objs.size) (P := IsL l) (get_size _) (Ext.of_keeps (t := s.toks) hk) hn ⟨c', rfl⟩
  exact h _ _ q (σ.ext.live (get_size _))
theorem k_tupleL (σ : S hb s0 mods g0 env ns vs led g s) {a : Addr} {l : List Value} {Q : Value → Shared → Prop} (hl : s.heap.IsList a l.toArray) (hsz : l.length ≤ sizeLine)
    (h : ∀ c g' s', S hb s0 mods g0 env ns vs led g' s' → GLe g g' → TG g' c l → Q (.ref c) s') : wpAny (model prog w) A (call (.type "tuple") [.ref a]) Q E s := by
  refine call_tuple_list hl (fun h' hk => ?_) (by simpa using hsz)
  have σ1 := σ.grow (Ext.of_keeps (t := s.toks) hk)
  have q := σ1.ice (a := h'.objs.size) (get_size _) (Ext.push (t := s.toks) (o := { cls := .type "tuple", data := .seq l.toArray })) (Heap.get?_push_size _ rfl)
  exact h _ _ _ q.1 q.2 ⟨_, FH.put_self, 0, rfl⟩
theorem k_tupleT {a : Addr} {l : List Value} {Q : Value → Shared → Prop} (hl : HT s a l) (h : Q (.ref a) s) : wpAny (model prog w) A (call (.type "tuple") [.ref a]) Q E s :=
  call_tuple_same hl.isTuple h
theorem k_sum (σ : S hb s0 mods g0 env ns vs led g s) (hA : A.handled = none) {a : Addr} {l : List Value} {is : List Int} {Q : Value → Shared → Prop} (hl : s.heap.IsList a l.toArray) (hi : IntsAre l is)
    (h : ∀ t s', S hb s0 mods g0 env ns vs led g s' → Q (.int is.sum t) s') : wpAny (model prog w) A (call (.builtin "sum") [.ref a]) Q E s := by
  obtain ⟨xs, e⟩ := hi.allInts.items
  rw [e] at hl
  refine sum_intListG hA hl fun h' tk t' hk => ?_
  have e2 : is = xs.toList.map (·.1) := by
    rw [← nums_intItems, ← e, ← hi.numsOf]
  have := h t' _ (σ.grow (Ext.of_keeps (t := tk) hk))
  rw [preSum_eq, List.take_of_length_le (by simp), ← e2]; exact this
theorem i_pow (σ : S hb s0 mods g0 env ns vs led g s) {a n : Int} {t u : Tok} {Q : Value → Shared → Prop} (hn : 0 ≤ n) (hn2 : n ≤ 1000000) (ha : a.natAbs < 2 ^ 64) (h : ∀ t s', S hb s0 mods g0 env ns vs led g s' → Q (.int (a ^ n.toNat) t) s') :
    wpAny (model prog w) A (binaryOp .Pow (.int a t) (.int n u)) Q E s := pow_int_small hn hn2 ha (h _ _ σ.toks)
theorem i_fdivB (σ : S hb s0 mods g0 env ns vs led g s) {i j a b} {Q : Value → Shared → Prop} (hj : j ≠ 0) (hs : j.natAbs < 1073741824) (h : ∀ t s', S hb s0 mods g0 env ns vs led g s' → Q (.int (i.fdiv j) t) s') :
    wpAny (model prog w) A (binaryOp .FloorDiv (.int i a) (.int j b)) Q E s := i_fdiv σ hj hs h

section
variable {K : Type} [DecidableEq K] {knd : KeyKind prog w K}
theorem d_empty (knd : KeyKind prog w K) (σ : S hb s0 mods g0 env ns vs led g s) (big : 2 ≤ s.heap.objs.size) {pos : Pos} {Q : Value → Shared → Prop}
    (h : ∀ d s', S hb s0 mods g0 env ns vs ((d, IsD knd []) :: led) g s' → s0.heap.get? d = none → (d == sysModules) = false → Q (.ref d) s') : wpAny (model prog w) A (eval (.Dict [] [] pos) env) Q E s := by
  refine wpAny_Dict_empty ?_
  obtain ⟨o, ho, hd⟩ := Heap.dictOf_iff.mp (Heap.DictOf.new (knd := knd) s.heap)
  have q := σ.alloc (a := s.heap.objs.size) (P := IsD knd []) (get_size _) (Ext.push (t := s.toks) (o := { cls := .type "dict", data := .dict #[] })) ho hd
  refine h _ _ q (σ.ext.live (get_size _)) ?_
  have : s.heap.objs.size ≠ 1 := by lia
  simpa [sysModules] using this
theorem c_in_d (σ : S hb s0 mods g0 env ns vs led g s) {d : Addr} {k : K} {key : Value} {kvs : List (K × Value)} {Q : Value → Shared → Prop} (hd : HD knd s d kvs) (hds : (d == sysModules) = false) (hk : knd.is k key = true)
    (h : ∀ s', S hb s0 mods g0 env ns vs led g s' → Q (.bool (valueAt kvs k).isSome) s') : wpAny (model prog w) A (compareOp .In key (.ref d)) Q E s :=
  wpAny_in_of hk hds (Heap.DictOf.mapOf hd) (h _ σ.toks)
theorem c_nin_d (σ : S hb s0 mods g0 env ns vs led g s) {d : Addr} {k : K} {key : Value} {kvs : List (K × Value)} {Q : Value → Shared → Prop} (hd : HD knd s d kvs) (hds : (d == sysModules) = false) (hk : knd.is k key = true)
    (h : ∀ s', S hb s0 mods g0 env ns vs led g s' → Q (.bool (!(valueAt kvs k).isSome)) s') : wpAny (model prog w) A (compareOp .NotIn key (.ref d)) Q E s :=
  wpAny_notIn_of hk hds (Heap.DictOf.mapOf hd) (h _ σ.toks)
end
theorem big_of {hb : Heap} (W : Wld hb) {s0 : Shared} {mods : List Addr} {g0 : FH} {env : Env} {ns : List Str} {vs : List (Option Value)} {led : Led} {g : FH} {s : Shared} (σ : S hb s0 mods g0 env ns vs led g s) : 2 ≤ s.heap.objs.size := by
  obtain ⟨o, ho, _⟩ := W.fn_wtwo.fn
  have := Heap.lt_size (σ.hbs _ _ ho)
  exact Nat.le_trans (by decide) (Nat.le_of_lt this)
end
inductive Node where
  | leaf (op : List Int)
  | one (op : List Int) (l : List Node)
  | two (op : List Int) (l₁ l₂ : List Node)

noncomputable def OpG (g : FH) (p : Addr) (op : List Int) : Prop := ∃ po, TG g p po ∧ IntsAre po op
theorem OpG.mono {g g' : FH} {p op} (x : OpG g p op) (h : GLe g g') : OpG g' p op := let ⟨po, a, b⟩ := x; ⟨po, a.mono h, b⟩

mutual
inductive NodeV (g : FH) : Value → Node → Prop
  | leaf {a p : Addr} {op} : TG g a [.ref p, .none, .none] → OpG g p op → NodeV g (.ref a) (.leaf op)
  | one {a p b : Addr} {op xs l} : TG g a [.ref p, .ref b, .none] → OpG g p op → LG g b xs → NodesV g xs l → NodeV g (.ref a) (.one op l)
  | two {a p b c : Addr} {op xs l ys m} : TG g a [.ref p, .ref b, .ref c] → OpG g p op → LG g b xs → NodesV g xs l → LG g c ys → NodesV g ys m → NodeV g (.ref a) (.two op l m)
inductive NodesV (g : FH) : List Value → List Node → Prop
  | nil : NodesV g [] []
  | cons {v n vs ns} : NodeV g v n → NodesV g vs ns → NodesV g (v :: vs) (n :: ns)
end
theorem node_leaf {g g' : FH} {p a : Addr} {po : List Value} {op : List Int} (h1 : TG g p po) (le : GLe g g') (h2 : TG g' a [.ref p, .none, .none]) (hi : IntsAre po op) : NodeV g' (.ref a) (.leaf op) := .leaf h2 ⟨po, h1.mono le, hi⟩
theorem NodesV.ind {g : FH} {P : List Value → List Node → Prop} (h0 : P [] []) (h1 : ∀ {v n vs ns}, NodeV g v n → NodesV g vs ns → P vs ns → P (v :: vs) (n :: ns)) {xs l} (x : NodesV g xs l) : P xs l :=
  x.rec (motive_1 := fun _ _ _ => True) (motive_2 := fun xs l _ => P xs l) (fun _ _ => trivial) (fun _ _ _ _ _ => trivial) (fun _ _ _ _ _ _ _ _ => trivial) h0 (fun a b _ i => h1 a b i)
theorem NodeV.mono {g g' : FH} (h : GLe g g') {v n} (x : NodeV g v n) : NodeV g' v n :=
  x.rec (motive_1 := fun v n _ => NodeV g' v n) (motive_2 := fun v n _ => NodesV g' v n) (fun a b => .leaf (a.mono h) (b.mono h)) (fun a b c _ i => .one (a.mono h) (b.mono h) (c.mono h) i) (fun a b c _ e _ i j => .two (a.mono h) (b.mono h) (c.mono h) i (e.mono h) j) .nil (fun _ _ i j => .cons i j)
theorem NodesV.mono {g g' : FH} (h : GLe g g') {v n} (x : NodesV g v n) : NodesV g' v n := x.ind (P := NodesV g') .nil fun a _ i => .cons (a.mono h) i
theorem NodesV.length {g : FH} {xs l} (x : NodesV g xs l) : xs.length = l.length := x.ind (P := fun xs l => xs.length = l.length) rfl fun _ _ i => congrArg (· + 1) i
theorem NodesV.get {g : FH} {xs l} {i : Nat} {v} (x : NodesV g xs l) (h : xs[i]? = some v) : ∃ n, l[i]? = some n ∧ NodeV g v n := by
  revert i
  exact x.ind (P := fun xs l => ∀ {i : Nat}, xs[i]? = some v → ∃ n, l[i]? = some n ∧ NodeV g v n) (fun h => nomatch h) fun a _ ih i h => by
    cases i with
    | zero => cases h; exact ⟨_, rfl, a⟩
    | succ i => exact ih h
theorem NodesV.append {g : FH} {xs l ys m} (x : NodesV g xs l) (y : NodesV g ys m) : NodesV g (xs ++ ys) (l ++ m) := x.ind (P := fun xs l => NodesV g (xs ++ ys) (l ++ m)) y fun a _ i => .cons a i
theorem NodesV.snoc {g : FH} {xs l v n} (h : NodesV g xs l) (k : NodeV g v n) : NodesV g (xs ++ [v]) (l ++ [n]) := h.append (.cons k .nil)
theorem NodesV.refs {g : FH} {xs l} (x : NodesV g xs l) : ∀ v ∈ xs, ∃ b, v = .ref b := x.ind (P := fun xs _ => ∀ v ∈ xs, ∃ b, v = .ref b) (fun _ h => nomatch h) fun a _ i v h => by
  rcases List.mem_cons.mp h with rfl | h
  · cases a <;> exact ⟨_, rfl⟩
  · exact i v h
theorem NodesV.rep {g : FH} {v n} (h : NodeV g v n) : ∀ k, NodesV g (List.replicate k v) (List.replicate k n)
  | 0 => .nil
  | k + 1 => .cons h (NodesV.rep h k)

mutual
noncomputable def flatN : Node → List (List Int)
  | .leaf op => [op]
  | .one op l => op :: (flatL l ++ [[11]])
  | .two op l m => op :: (flatL l ++ [5] :: (flatL m ++ [[11]]))
noncomputable def flatL : List Node → List (List Int)
  | [] => []
  | n :: r => flatN n ++ flatL r
end
theorem flatL_append : ∀ l m : List Node, flatL (l ++ m) = flatL l ++ flatL m
  | [], m => by simp [flatL]
  | n :: r, m => by simp [flatL, flatL_append r m]

theorem flatN_pos : ∀ n : Node, 1 ≤ (flatN n).length
  | .leaf _ => by simp [flatN]
  | .one _ _ => by simp [flatN]
  | .two _ _ _ => by simp [flatN]
theorem flatL_length : ∀ l : List Node, l.length ≤ (flatL l).length
  | [] => Nat.zero_le _
  | n :: r => by have := flatN_pos n; have := flatL_length r; simp [flatL]; lia
theorem flatL_drops : ∀ k : Nat, flatL (List.replicate k (.leaf [26])) = List.replicate k [26]
  | 0 => rfl
  | k + 1 => by rw [List.replicate_succ, List.replicate_succ, flatL, flatL_drops k]; rfl

mutual
noncomputable def depN : Node → Nat
  | .leaf _ => 0
  | .one _ l => depL l + 1
  | .two _ l m => max (depL l) (depL m) + 1
noncomputable def depL : List Node → Nat
  | [] => 0
  | n :: r => max (depN n) (depL r)
end
theorem depL_append : ∀ l m : List Node, depL (l ++ m) = max (depL l) (depL m)
  | [], m => by simp [depL]
  | n :: r, m => by simp [depL, depL_append r m, Nat.max_assoc]
theorem depL_drops : ∀ k : Nat, depL (List.replicate k (.leaf [26])) = 0
  | 0 => rfl
  | k + 1 => by rw [List.replicate_succ, depL, depL_drops k]; rfl
inductive WF (m : Int) : List Node → Nat → Nat → Prop
  | nil {h} : WF m [] h h
  | get {i r h k} : 0 ≤ i → i < m → WF m r (h + 1) k → WF m (.leaf [32, i] :: r) h k
  | set {i r h k} : 0 ≤ i → i < m → WF m r h k → WF m (.leaf [33, i] :: r) (h + 1) k
  | tee {i r h k} : 0 ≤ i → i < m → WF m r (h + 1) k → WF m (.leaf [34, i] :: r) (h + 1) k
  | const {c r h k} : WF m r (h + 1) k → WF m (.leaf [65, c] :: r) h k
  | add {r h k} : WF m r (h + 1) k → WF m (.leaf [106] :: r) (h + 2) k
  | call {r h k} : WF m r h k → WF m (.leaf [16, 0] :: r) (h + 1) k
  | drop {r h k} : WF m r h k → WF m (.leaf [26] :: r) (h + 1) k
  | block {c l r h k} : c = 2 ∨ c = 3 → WF m l 0 0 → WF m r h k → WF m (.one [c, -64] l :: r) h k
  | if1 {l r h k} : WF m l 0 0 → WF m r h k → WF m (.one [4, -64] l :: r) (h + 1) k
  | if2 {l l' r h k} : WF m l 0 0 → WF m l' 0 0 → WF m r h k → WF m (.two [4, -64] l l' :: r) (h + 1) k

theorem WF.append {m : Int} {a : List Node} {h k} (x : WF m a h k) : ∀ {b j}, WF m b k j → WF m (a ++ b) h j := by
  induction x with
  | nil => intro b j y; exact y
  | get h0 h1 _ ih => intro b j y; exact .get h0 h1 (ih y)
  | set h0 h1 _ ih => intro b j y; exact .set h0 h1 (ih y)
  | tee h0 h1 _ ih => intro b j y; exact .tee h0 h1 (ih y)
  | const _ ih => intro b j y; exact .const (ih y)
  | add _ ih => intro b j y; exact .add (ih y)
  | call _ ih => intro b j y; exact .call (ih y)
  | drop _ ih => intro b j y; exact .drop (ih y)
  | block h0 h1 _ _ ih => intro b j y; exact .block h0 h1 (ih y)
  | if1 h0 _ _ ih => intro b j y; exact .if1 h0 (ih y)
  | if2 h0 h1 _ _ _ ih => intro b j y; exact .if2 h0 h1 (ih y)
theorem WF.drops {m : Int} : ∀ h, WF m (List.replicate h (.leaf [26])) h 0
  | 0 => .nil
  | h + 1 => .drop (WF.drops h)

inductive OpsV (g : FH) : List Value → List (List Int) → Prop
  | nil : OpsV g [] []
  | cons {p op vs ops} : OpG g p op → OpsV g vs ops → OpsV g (.ref p :: vs) (op :: ops)
theorem OpsV.mono {g g' : FH} (h : GLe g g') {vs ops} (x : OpsV g vs ops) : OpsV g' vs ops := by
  induction x with
  | nil => exact .nil
  | cons a _ i => exact .cons (a.mono h) i
theorem OpsV.append {g : FH} {xs l ys m} (x : OpsV g xs l) (y : OpsV g ys m) : OpsV g (xs ++ ys) (l ++ m) := by
  induction x with
  | nil => exact y
  | cons a _ i => exact .cons a i
theorem OpsV.snoc {g : FH} {xs l p op} (h : OpsV g xs l) (k : OpG g p op) : OpsV g (xs ++ [.ref p]) (l ++ [op]) := h.append (.cons k .nil)
theorem OpsV.length {g : FH} {xs l} (x : OpsV g xs l) : xs.length = l.length := by
  induction x with
  | nil => rfl
  | cons _ _ i => exact congrArg (· + 1) i
theorem OpsV.get {g : FH} {xs l} {i : Nat} {v} (x : OpsV g xs l) (h : xs[i]? = some v) : ∃ p op, v = .ref p ∧ l[i]? = some op ∧ OpG g p op := by
  induction x generalizing i with
  | nil => cases h
  | cons a _ ih =>
    cases i with
    | zero => cases h; exact ⟨_, _, rfl, rfl, a⟩
    | succ i => exact ih h
theorem OpsV.refs {g : FH} {xs l} (x : OpsV g xs l) : ∀ v ∈ xs, ∃ b, v = .ref b := fun v h => by
  obtain ⟨i, hi⟩ := List.getElem?_of_mem h
  obtain ⟨p, _, e, _⟩ := x.get hi
  exact ⟨p, e⟩
theorem flatL_take_succ {l : List Node} {i : Nat} {n : Node} (h : l[i]? = some n) : flatL (l.take (i + 1)) = flatL (l.take i) ++ flatN n := by
  rw [List.take_add_one, h, flatL_append]; simp [flatL]
theorem flatL_take_le : ∀ (l : List Node) (i : Nat), (flatL (l.take i)).length ≤ (flatL l).length
  | [], i => by simp [flatL]
  | n :: r, 0 => by simp [flatL]
  | n :: r, i + 1 => by have := flatL_take_le r i; simp [flatL]; lia
theorem depN_le : ∀ {l : List Node} {i : Nat} {n : Node}, l[i]? = some n → depN n ≤ depL l
  | m :: r, 0, n, h => by simp only [List.getElem?_cons_zero, Option.some.injEq] at h; subst h; simp [depL]; exact Nat.le_max_left _ _
  | m :: r, i + 1, n, h => by simp only [List.getElem?_cons_succ] at h; have := depN_le h; simp [depL]; exact Nat.le_trans this (Nat.le_max_right _ _)
theorem flatN_le {l : List Node} {i : Nat} {n : Node} (h : l[i]? = some n) : (flatL (l.take i)).length + (flatN n).length ≤ (flatL l).length := by
  have := flatL_take_le l (i + 1); rw [flatL_take_succ h] at this; simpa using this
theorem intsAre_uniq {l : List Value} {a b : List Int} (h1 : IntsAre l a) (h2 : IntsAre l b) : a = b := by
  induction h1 generalizing b with
  | nil => cases h2; rfl
  | cons i t _ ih => cases h2 with | cons _ _ h => rw [ih h]
theorem TG.uniq {g : FH} {a : Addr} {xs ys : List Value} (h1 : TG g a xs) (h2 : TG g a ys) : xs = ys := by
  obtain ⟨o, e1, n, rfl⟩ := h1; obtain ⟨o', e2, n', h2⟩ := h2
  rw [e1] at e2; cases e2; injection h2 with _ _ q; injection q with q1; simpa using q1
theorem HL.uniq {s : Shared} {a : Addr} {xs ys : List Value} (h1 : HL s a xs) (h2 : HL s a ys) : xs = ys := by
  obtain ⟨o, e1, n, rfl⟩ := h1; obtain ⟨o', e2, n', h2⟩ := h2
  rw [e1] at e2; cases e2; injection h2 with _ _ q; injection q with q1; simpa using q1
theorem HT.uniq {s : Shared} {a : Addr} {xs ys : List Value} (h1 : HT s a xs) (h2 : HT s a ys) : xs = ys := by
  obtain ⟨o, e1, n, rfl⟩ := h1; obtain ⟨o', e2, n', h2⟩ := h2
  rw [e1] at e2; cases e2; injection h2 with _ _ q; injection q with q1; simpa using q1
theorem OpG.uniq {g : FH} {p : Addr} {a b : List Int} (h1 : OpG g p a) (h2 : OpG g p b) : a = b := by
  obtain ⟨x, t1, i1⟩ := h1; obtain ⟨y, t2, i2⟩ := h2
  rw [t1.uniq t2] at i1; exact intsAre_uniq i1 i2
theorem OpsV.uniq {g : FH} {xs : List Value} {a b : List (List Int)} (x : OpsV g xs a) (y : OpsV g xs b) : a = b := by
  induction x generalizing b with
  | nil => cases y; rfl
  | cons a _ ih => cases y with | cons a' y => rw [a.uniq a', ih y]
theorem all_eqP {α : Type} [DecidableEq α] (is js : List α) : (decide (is.length = js.length) && (List.range is.length).all fun j => decide (is[j]? = js[j]?)) = decide (is = js) := by
  rw [Bool.eq_iff_iff]
  simp only [Bool.and_eq_true, List.all_eq_true, List.mem_range, decide_eq_true_eq]
  constructor
  · rintro ⟨hl, h⟩
    apply List.ext_getElem? fun j => ?_
    by_cases hj : j < is.length
    · exact h j hj
    · rw [List.getElem?_eq_none (by lia), List.getElem?_eq_none (by lia)]
  · rintro rfl; exact ⟨rfl, fun _ _ => rfl⟩
section
variable {A : Around} {s : Shared} {g : FH}
theorem op_eqR {p q : Addr} {a b : List Int} (hin : ∀ x o, g x = some o → s.heap.get? x = some o) (h1 : OpG g p a) (h2 : OpG g q b) (hu : A.units < cLine) : EqAt A s (.ref p) (.ref q) (decide (a = b)) := by
  obtain ⟨x, t1, i1⟩ := h1; obtain ⟨y, t2, i2⟩ := h2
  obtain ⟨o1, e1, j1⟩ := t1; obtain ⟨o2, e2, j2⟩ := t2
  exact ints_eqR (⟨o1, hin _ _ e1, j1⟩ : HT s p x) ⟨o2, hin _ _ e2, j2⟩ i1 i2 hu
theorem ops_at (hin : ∀ x o, g x = some o → s.heap.get? x = some o) {xs ys : List Value} {a b : List (List Int)} (h1 : OpsV g xs a) (h2 : OpsV g ys b) (hu : A.units < cLine) (j : Nat) (hj1 : j < xs.length) (hj2 : j < ys.length) : EqAt A s xs[j] ys[j] (decide (a[j]? = b[j]?)) := by
  obtain ⟨p, op, e1, ea, o1⟩ := h1.get (List.getElem?_eq_getElem hj1)
  obtain ⟨q, oq, e2, eb, o2⟩ := h2.get (List.getElem?_eq_getElem hj2)
  rw [e1, e2, ea, eb]
  have : decide (some op = some oq) = decide (op = oq) := by simp
  rw [this]; exact op_eqR hin o1 o2 hu
theorem in1_units {k : Nat} (h : Room (k + 1) A) : A.in1.units < cLine := room_units h.in1
theorem ops_rc (hin : ∀ x o, g x = some o → s.heap.get? x = some o) {l b : Addr} {xs ys : List Value} {oa ob : List (List Int)} (hl : HL s l xs) (hb : HL s b ys) (h1 : OpsV g xs oa) (h2 : OpsV g ys ob) (hr : Room 1 A) : RcAt A s (.ref l) (.ref b) (decide (oa = ob)) := fun prog w E Q h => by
  refine c_eq_lists hl hb (room_units hr) (fun hn j j1 j2 => ops_at hin h1 h2 (in1_units hr) j j1 j2) ?_
  rw [h1.length, h2.length, all_eqP]; exact h
theorem ops_eqR (hin : ∀ x o, g x = some o → s.heap.get? x = some o) {l b : Addr} {xs ys : List Value} {oa ob : List (List Int)} (hl : HL s l xs) (hb : HL s b ys) (h1 : OpsV g xs oa) (h2 : OpsV g ys ob) (hr : Room 1 A) : EqAt A s (.ref l) (.ref b) (decide (oa = ob)) := by
  by_cases e : l = b
  · subst e
    have : xs = ys := hl.uniq hb
    subst this
    rw [decide_eq_true (h1.uniq h2)]; exact EqAt.same _
  · exact EqAt.of_refs e (ops_rc hin hl hb h1 h2 hr)
theorem opsT_rc (hin : ∀ x o, g x = some o → s.heap.get? x = some o) {l b : Addr} {xs ys : List Value} {oa ob : List (List Int)} (hl : HT s l xs) (hb : HT s b ys) (h1 : OpsV g xs oa) (h2 : OpsV g ys ob) (hr : Room 1 A) : RcAt A s (.ref l) (.ref b) (decide (oa = ob)) := fun prog w E Q h => by
  refine c_eq_tuples (e := fun j => decide (oa[j]? = ob[j]?)) hl hb (room_units hr) (fun j j1 j2 => ops_at hin h1 h2 (in1_units hr) j j1 j2) ?_
  have e : ((List.range (min xs.length ys.length)).all (fun j => decide (oa[j]? = ob[j]?)) && xs.length == ys.length) = decide (oa = ob) := by
    rw [h1.length, h2.length]
    by_cases hn : oa.length = ob.length
    · rw [← all_eqP, hn]; simp
    · have : ¬ oa = ob := fun q => hn (by rw [q])
      simp [hn, this]
  rw [e]; exact h
theorem opsT_eqR (hin : ∀ x o, g x = some o → s.heap.get? x = some o) {l b : Addr} {xs ys : List Value} {oa ob : List (List Int)} (hl : HT s l xs) (hb : HT s b ys) (h1 : OpsV g xs oa) (h2 : OpsV g ys ob) (hr : Room 1 A) : EqAt A s (.ref l) (.ref b) (decide (oa = ob)) := by
  by_cases e : l = b
  · subst e
    have : xs = ys := hl.uniq hb
    subst this
    rw [decide_eq_true (h1.uniq h2)]; exact EqAt.same _
  · exact EqAt.of_refs e (opsT_rc hin hl hb h1 h2 hr)
theorem intsL_rc {l b : Addr} {xs ys : List Value} {is js : List Int} (hl : HL s l xs) (hb' : HL s b ys) (hi : IntsAre xs is) (hj : IntsAre ys js) (hu : A.units < cLine) : RcAt A s (.ref l) (.ref b) (decide (is = js)) := fun prog w E Q h => by
  refine c_eq_lists (e := eqJ is js) hl hb' hu (fun _ j h1 h2 => ints_eqAt hi hj j h1 h2) ?_
  have e : (decide (xs.length = ys.length) && (List.range xs.length).all (eqJ is js)) = decide (is = js) := by
    rw [ints_len hi, ints_len hj]
    have := all_eqP is js
    rw [← this]
    congr 1
    apply List.all_congr rfl
    intro j
    rw [eqJ, Bool.eq_iff_iff]; simp
  rw [e]; exact h
theorem intsL_eqR {l b : Addr} {xs ys : List Value} {is js : List Int} (hl : HL s l xs) (hb' : HL s b ys) (hi : IntsAre xs is) (hj : IntsAre ys js) (hu : A.units < cLine) : EqAt A s (.ref l) (.ref b) (decide (is = js)) := by
  by_cases e : l = b
  · subst e
    have : xs = ys := hl.uniq hb'
    subst this
    rw [decide_eq_true (intsAre_uniq hi hj)]; exact EqAt.same _
  · exact EqAt.of_refs e (intsL_rc hl hb' hi hj hu)
end
section
variable {prog : Program} {w : World} {A : Around} {E : Value → Shared → Prop} {s : Shared} {g : FH}
theorem c_ne_ops (hin : ∀ x o, g x = some o → s.heap.get? x = some o) {l b : Addr} {xs ys : List Value} {oa ob : List (List Int)} {Q : Value → Shared → Prop} (hl : HL s l xs) (hb : HL s b ys) (h1 : OpsV g xs oa) (h2 : OpsV g ys ob) (hr : Room 1 A)
    (h : Q (.bool (!decide (oa = ob))) s) : wpAny (model prog w) A (compareOp .NotEq (.ref l) (.ref b)) Q E s := by
  refine c_ne_lists hl hb (room_units hr) (fun hn j j1 j2 => ops_at hin h1 h2 (in1_units hr) j j1 j2) ?_
  rw [h1.length, h2.length, all_eqP]; exact h
theorem c_in_ops (hin : ∀ x o, g x = some o → s.heap.get? x = some o) {l p : Addr} {xs : List Value} {ops : List (List Int)} {op : List Int} {Q : Value → Shared → Prop} (hl : HL s l xs) (h1 : OpsV g xs ops) (hp : OpG g p op) (hr : Room 1 A)
    (h : Q (.bool (decide (op ∈ ops))) s) : wpAny (model prog w) A (compareOp .In (.ref p) (.ref l)) Q E s := by
  classical
  have key : ∀ {xs : List Value} {ops : List (List Int)}, OpsV g xs ops → (xs.any fun y => decide (∃ q, y = .ref q ∧ OpG g q op)) = decide (op ∈ ops) := by
    intro xs ops h
    induction ops generalizing xs with
    | nil => cases h; rfl
    | cons o r ih =>
      cases h with
      | @cons q _ vs _ a b =>
        rw [List.any_cons, ih b]
        have : decide (∃ q', Value.ref q = .ref q' ∧ OpG g q' op) = decide (op = o) := by
          rw [Bool.eq_iff_iff, decide_eq_true_eq, decide_eq_true_eq]
          constructor
          · rintro ⟨q', e, h'⟩; cases e; exact h'.uniq a
          · rintro rfl; exact ⟨q, rfl, a⟩
        rw [this, Bool.eq_iff_iff]; simp
  refine in_listAt (fun y => decide (∃ q, y = .ref q ∧ OpG g q op)) hl.isList (fun y hy => ?_) ?_
  · have hy' : y ∈ xs := by simpa using hy
    obtain ⟨i, hi, e⟩ := List.getElem_of_mem hy'
    obtain ⟨q, oq, e1, _, o1⟩ := h1.get (List.getElem?_eq_getElem hi)
    rw [← e, e1]
    have : decide (∃ q', Value.ref q = .ref q' ∧ OpG g q' op) = decide (oq = op) := by
      rw [Bool.eq_iff_iff, decide_eq_true_eq, decide_eq_true_eq]
      constructor
      · rintro ⟨q', e, h'⟩; cases e; exact o1.uniq h'
      · rintro rfl; exact ⟨q, rfl, o1⟩
    rw [this]; exact op_eqR hin o1 hp (in1_units hr)
  · have := key h1
    rw [List.any_toArray, this]; exact h
end
noncomputable def opOf : Node → List Int
  | .leaf op => op
  | .one op _ => op
  | .two op _ _ => op
noncomputable def OpOk (op : List Int) : Prop := ∃ c t, op = c :: t ∧ t.length ≤ 1 ∧ (32 ≤ c → c ≤ 34 → ∃ i, t = [i])
noncomputable def twoS (c d : Int) : Option (List Int) :=
  if c = 33 ∧ d = 32 then some [34] else if c = 32 ∧ d = 33 then some [] else if c = 34 ∧ d = 33 then some [33] else if c = 32 ∧ d = 34 then some [32] else if c = 34 ∧ d = 34 then some [34] else none
noncomputable def twoN (a b : List Int) : Option (List Node) := match a, b with
  | [c, i], [d, j] => if i = j then (twoS c d).map (·.map fun k => .leaf [k, i]) else none
  | _, _ => none
noncomputable def twoD (a b : Node) : Option (List Node) := match a, b with
  | .leaf p, .leaf q => twoN p q
  | _, _ => none

noncomputable def LeafOp (m : Int) (op : List Int) : Prop := (∃ c i, op = [c, i] ∧ 32 ≤ c ∧ c ≤ 34 ∧ 0 ≤ i ∧ i < m) ∨ (∃ c, op = [65, c]) ∨ op = [106] ∨ op = [16, 0] ∨ op = [26]
mutual
noncomputable def GoodN (m : Int) : Node → Prop
  | .leaf op => LeafOp m op
  | .one op l => (op = [2, -64] ∨ op = [3, -64] ∨ op = [4, -64]) ∧ GoodL m l
  | .two op l k => op = [4, -64] ∧ GoodL m l ∧ GoodL m k
noncomputable def GoodL (m : Int) : List Node → Prop
  | [] => True
  | n :: r => GoodN m n ∧ GoodL m r
end
theorem GoodL.append {m : Int} : ∀ {a b : List Node}, GoodL m (a ++ b) ↔ GoodL m a ∧ GoodL m b
  | [], b => by simp [GoodL]
  | n :: r, b => by simp [GoodL, @GoodL.append m r b, and_assoc]
theorem GoodL.get {m : Int} : ∀ {l : List Node} {i : Nat} {n : Node}, GoodL m l → l[i]? = some n → GoodN m n
  | _ :: _, 0, _, h, e => by simp only [List.getElem?_cons_zero, Option.some.injEq] at e; subst e; exact h.1
  | _ :: _, i + 1, _, h, e => by simp only [List.getElem?_cons_succ] at e; exact GoodL.get h.2 e
theorem WF.good {m : Int} {l : List Node} {h k} (x : WF m l h k) : GoodL m l := by
  induction x with
  | nil => trivial
  | get h0 h1 _ ih => exact ⟨.inl ⟨_, _, rfl, by lia, by lia, h0, h1⟩, ih⟩
  | set h0 h1 _ ih => exact ⟨.inl ⟨_, _, rfl, by lia, by lia, h0, h1⟩, ih⟩
  | tee h0 h1 _ ih => exact ⟨.inl ⟨_, _, rfl, by lia, by lia, h0, h1⟩, ih⟩
  | const _ ih => exact ⟨.inr (.inl ⟨_, rfl⟩), ih⟩
  | add _ ih => exact ⟨.inr (.inr (.inl rfl)), ih⟩
  | call _ ih => exact ⟨.inr (.inr (.inr (.inl rfl))), ih⟩
  | drop _ ih => exact ⟨.inr (.inr (.inr (.inr rfl))), ih⟩
  | block hc _ _ i1 i2 => exact ⟨⟨by rcases hc with rfl | rfl <;> simp, i1⟩, i2⟩
  | if1 _ _ i1 i2 => exact ⟨⟨by simp, i1⟩, i2⟩
  | if2 _ _ _ i1 i2 i3 => exact ⟨⟨rfl, i1, i2⟩, i3⟩
theorem LeafOp.ok {m : Int} {op : List Int} (h : LeafOp m op) : OpOk op := by
  rcases h with ⟨c, i, rfl, h1, h2, _, _⟩ | ⟨c, rfl⟩ | rfl | rfl | rfl
  · exact ⟨c, [i], rfl, by simp, fun _ _ => ⟨_, rfl⟩⟩
  · exact ⟨_, _, rfl, by simp, fun _ _ => by lia⟩
  · exact ⟨_, _, rfl, by simp, fun _ _ => by lia⟩
  · exact ⟨_, _, rfl, by simp, fun _ _ => by lia⟩
  · exact ⟨_, _, rfl, by simp, fun _ _ => by lia⟩
theorem GoodN.ok {m : Int} {n : Node} (h : GoodN m n) : OpOk (opOf n) := by
  cases n with
  | leaf op => exact LeafOp.ok h
  | one op l => rcases h.1 with rfl | rfl | rfl <;> exact ⟨_, _, rfl, by simp, fun _ _ => by lia⟩
  | two op l k => rw [show opOf (.two op l k) = [4, -64] from h.1]; exact ⟨_, _, rfl, by simp, fun _ _ => by lia⟩
theorem twoS_none {c d : Int} (h : ¬ (32 ≤ c ∧ c ≤ 34 ∧ 32 ≤ d ∧ d ≤ 34)) : twoS c d = none := by
  unfold twoS; rw [if_neg (no2 (x := 33) (y := 32) h (by decide)), if_neg (no2 (x := 32) (y := 33) h (by decide)), if_neg (no2 (x := 34) (y := 33) h (by decide)), if_neg (no2 (x := 32) (y := 34) h (by decide)), if_neg (no2 (x := 34) (y := 34) h (by decide))]
theorem twoN_nonloc {a b : List Int} (h : a = [2, -64] ∨ a = [3, -64] ∨ a = [4, -64] ∨ b = [2, -64] ∨ b = [3, -64] ∨ b = [4, -64]) : twoN a b = none := by
  unfold twoN
  split
  · rename_i c i d j
    have : twoS c d = none := twoS_none (by
      rcases h with h | h | h | h | h | h <;> (injection h with h1; subst h1; lia))
    rw [this]; split <;> rfl
  · rfl
theorem good_two {m : Int} {a b : Node} (ha : GoodN m a) (hb : GoodN m b) : twoN (opOf a) (opOf b) = twoD a b := by
  cases a with
  | leaf p =>
    cases b with
    | leaf q => rfl
    | one q l => exact twoN_nonloc (by rcases hb.1 with h | h | h <;> simp [opOf, h])
    | two q l k => exact twoN_nonloc (by simp [opOf, hb.1])
  | one p l => exact (twoN_nonloc (by rcases ha.1 with h | h | h <;> simp [opOf, h])).trans (by cases b <;> rfl)
  | two p l k => exact (twoN_nonloc (by simp [opOf, ha.1])).trans (by cases b <;> rfl)
inductive Two : Node → Node → List Node → Prop
  | sg (i) : Two (.leaf [33, i]) (.leaf [32, i]) [.leaf [34, i]]
  | gs (i) : Two (.leaf [32, i]) (.leaf [33, i]) []
  | ts (i) : Two (.leaf [34, i]) (.leaf [33, i]) [.leaf [33, i]]
  | gt (i) : Two (.leaf [32, i]) (.leaf [34, i]) [.leaf [32, i]]
  | tt (i) : Two (.leaf [34, i]) (.leaf [34, i]) [.leaf [34, i]]
theorem two_of {a b : Node} {x : List Node} (h : twoD a b = some x) : Two a b x := by
  unfold twoD at h
  split at h
  · unfold twoN at h
    split at h
    · split at h
      · rename_i c i d j e
        subst e
        unfold twoS at h
        split at h
        · rename_i e; obtain ⟨rfl, rfl⟩ := e; simp at h; subst h; exact .sg i
        · split at h
          · rename_i e; obtain ⟨rfl, rfl⟩ := e; simp at h; subst h; exact .gs i
          · split at h
            · rename_i e; obtain ⟨rfl, rfl⟩ := e; simp at h; subst h; exact .ts i
            · split at h
              · rename_i e; obtain ⟨rfl, rfl⟩ := e; simp at h; subst h; exact .gt i
              · split at h
                · rename_i e; obtain ⟨rfl, rfl⟩ := e; simp at h; subst h; exact .tt i
                · simp at h
      · simp at h
    · simp at h
  · simp at h
theorem Two.is {a b : Node} {x : List Node} (h : Two a b x) : twoD a b = some x := by cases h <;> simp [twoD, twoN, twoS]
inductive Stp : List Node → List Node → Prop
  | mk (p a b x r) : Two a b x → Stp (p ++ a :: b :: r) (p ++ (x ++ r))
inductive Steps : List Node → List Node → Prop
  | refl {l} : Steps l l
  | tail {l m k} : Stp l m → Steps m k → Steps l k
theorem Steps.trans {l m k : List Node} (h : Steps l m) (h' : Steps m k) : Steps l k := by
  induction h with
  | refl => exact h'
  | tail s _ ih => exact .tail s (ih h')
theorem Stp.pre {l m : List Node} (q : List Node) (h : Stp l m) : Stp (q ++ l) (q ++ m) := by
  cases h with
  | mk p a b x r t => have := Stp.mk (q ++ p) a b x r t; simpa using this
theorem Stp.post {l m : List Node} (q : List Node) (h : Stp l m) : Stp (l ++ q) (m ++ q) := by
  cases h with
  | mk p a b x r t => have := Stp.mk p a b x (r ++ q) t; simpa using this
theorem Steps.pre {l m : List Node} (q : List Node) (h : Steps l m) : Steps (q ++ l) (q ++ m) := by
  induction h with
  | refl => exact .refl
  | tail s _ ih => exact .tail (s.pre q) ih
theorem Steps.post {l m : List Node} (q : List Node) (h : Steps l m) : Steps (l ++ q) (m ++ q) := by
  induction h with
  | refl => exact .refl
  | tail s _ ih => exact .tail (s.post q) ih
theorem Two.len {a b : Node} {x : List Node} (h : Two a b x) : x.length ≤ 1 := by cases h <;> simp
theorem Stp.len {l m : List Node} (h : Stp l m) : m.length < l.length := by
  cases h with
  | mk p a b x r t => have := t.len; simp; lia
theorem Steps.len {l m : List Node} (h : Steps l m) : m.length ≤ l.length := by
  induction h with
  | refl => exact Nat.le_refl _
  | tail s _ ih => have := s.len; lia
noncomputable def Normal (l : List Node) : Prop := ∀ m, ¬ Stp l m

theorem crit {a b d : Node} {x y : List Node} (h1 : Two a b x) (h2 : Two b d y) : ∃ z, Steps (x ++ [d]) z ∧ Steps (a :: y) z := by
  cases h1 with
  | sg i => cases h2 with
    | gs => exact ⟨_, .tail (.mk [] _ _ _ [] (.ts i)) .refl, .refl⟩
    | gt => exact ⟨_, .tail (.mk [] _ _ _ [] (.tt i)) .refl, .tail (.mk [] _ _ _ [] (.sg i)) .refl⟩
  | gs i => cases h2 with
    | sg => exact ⟨_, .refl, .tail (.mk [] _ _ _ [] (.gt i)) .refl⟩
  | ts i => cases h2 with
    | sg => exact ⟨_, .tail (.mk [] _ _ _ [] (.sg i)) .refl, .tail (.mk [] _ _ _ [] (.tt i)) .refl⟩
  | gt i => cases h2 with
    | ts => exact ⟨_, .tail (.mk [] _ _ _ [] (.gs i)) .refl, .tail (.mk [] _ _ _ [] (.gs i)) .refl⟩
    | tt => exact ⟨_, .tail (.mk [] _ _ _ [] (.gt i)) .refl, .tail (.mk [] _ _ _ [] (.gt i)) .refl⟩
  | tt i => cases h2 with
    | ts => exact ⟨_, .tail (.mk [] _ _ _ [] (.ts i)) .refl, .tail (.mk [] _ _ _ [] (.ts i)) .refl⟩
    | tt => exact ⟨_, .tail (.mk [] _ _ _ [] (.tt i)) .refl, .tail (.mk [] _ _ _ [] (.tt i)) .refl⟩

theorem Two.uniq {a b : Node} {x y : List Node} (h1 : Two a b x) (h2 : Two a b y) : x = y := by
  have := h1.is.symm.trans h2.is; simpa using this

theorem local_conf : ∀ {p p' : List Node} {a b c d : Node} {x y r r' : List Node}, Two a b x → Two c d y → p ++ a :: b :: r = p' ++ c :: d :: r' → p.length ≤ p'.length →
    ∃ z, Steps (p ++ (x ++ r)) z ∧ Steps (p' ++ (y ++ r')) z
  | [], [], a, b, c, d, x, y, r, r', h1, h2, e, _ => by
    simp at e; obtain ⟨rfl, rfl, rfl⟩ := e
    rw [h1.uniq h2]; exact ⟨_, .refl, .refl⟩
  | [], [e1], a, b, c, d, x, y, r, r', h1, h2, e, _ => by
    simp at e; obtain ⟨rfl, rfl, rfl⟩ := e
    obtain ⟨z, k1, k2⟩ := crit h1 h2
    exact ⟨z ++ r', by simpa using k1.post r', by simpa using k2.post r'⟩
  | [], e1 :: e2 :: q, a, b, c, d, x, y, r, r', h1, h2, e, _ => by
    simp at e; obtain ⟨rfl, rfl, rfl⟩ := e
    refine ⟨x ++ (q ++ (y ++ r')), .tail ?_ .refl, .tail ?_ .refl⟩
    · have := Stp.mk (x ++ q) c d y r' h2; simpa using this
    · have := Stp.mk [] a b x (q ++ (y ++ r')) h1; simpa using this
  | f :: p, [], _, _, _, _, _, _, _, _, _, _, _, hl => by simp at hl
  | f :: p, f' :: p', a, b, c, d, x, y, r, r', h1, h2, e, hl => by
    simp only [List.cons_append, List.cons.injEq] at e
    obtain ⟨rfl, e⟩ := e
    obtain ⟨z, k1, k2⟩ := local_conf h1 h2 e (by simpa using hl)
    exact ⟨f :: z, k1.pre [f], k2.pre [f]⟩
theorem stp_conf {l m k : List Node} (h1 : Stp l m) (h2 : Stp l k) : ∃ z, Steps m z ∧ Steps k z := by
  cases h1 with
  | mk p a b x r t =>
    generalize hl : p ++ a :: b :: r = l at h2
    cases h2 with
    | mk p' c d y r' t' =>
      rcases Nat.le_total p.length p'.length with q | q
      · exact local_conf t t' hl q
      · obtain ⟨z, a, b⟩ := local_conf t' t hl.symm q; exact ⟨z, b, a⟩
noncomputable def step1 : List Node → Option (List Node)
  | a :: b :: r => match twoD a b with
    | some x => some (x ++ r)
    | none => (step1 (b :: r)).map (a :: ·)
  | _ => none
theorem step1_some : ∀ {l m : List Node}, step1 l = some m → Stp l m
  | [], _, h => by simp [step1] at h
  | [_], _, h => by simp [step1] at h
  | a :: b :: r, m, h => by
    unfold step1 at h
    split at h
    · rename_i x e; simp at h; subst h; exact .mk [] a b x r (two_of e)
    · cases hs : step1 (b :: r) with
      | none => simp [hs] at h
      | some m' =>
        simp [hs] at h; subst h
        exact (step1_some hs).pre [a]
theorem step1_none : ∀ {l : List Node}, step1 l = none → Normal l
  | [], _, m, h => by cases hq : ([] : List Node) with | _ => generalize hl : ([] : List Node) = l at h; cases h with | mk p a b x r t => simp at hl
  | [c], _, m, h => by
    generalize hl : [c] = l at h
    cases h with
    | mk p a b x r t =>
      have := congrArg List.length hl
      simp at this; lia
  | c :: d :: q, hn, m, h => by
    unfold step1 at hn
    split at hn
    · simp at hn
    · rename_i e
      have hn' : step1 (d :: q) = none := by simpa using hn
      generalize hl : c :: d :: q = l at h
      cases h with
      | mk p a b x r t =>
        cases p with
        | nil => simp at hl; obtain ⟨rfl, rfl, rfl⟩ := hl; rw [t.is] at e; cases e
        | cons f p =>
          simp only [List.cons_append, List.cons.injEq] at hl
          obtain ⟨rfl, hl⟩ := hl
          exact step1_none hn' _ (hl ▸ Stp.mk p a b x r t)
noncomputable def nfF : Nat → List Node → List Node
  | 0, l => l
  | k + 1, l => match step1 l with
    | some l' => nfF k l'
    | none => l
theorem nfF_steps : ∀ (k : Nat) (l : List Node), Steps l (nfF k l)
  | 0, _ => .refl
  | k + 1, l => by
    unfold nfF
    split
    · rename_i e; exact .tail (step1_some e) (nfF_steps k _)
    · exact .refl
theorem nfF_normal : ∀ (k : Nat) (l : List Node), l.length ≤ k → Normal (nfF k l)
  | 0, l, h => by
    have : l = [] := List.length_eq_zero_iff.mp (Nat.le_zero.mp h)
    subst this; exact step1_none rfl
  | k + 1, l, h => by
    unfold nfF
    split
    · rename_i e; have := (step1_some e).len; exact nfF_normal k _ (by lia)
    · rename_i e; exact step1_none e
noncomputable def nf (l : List Node) : List Node := nfF l.length l
theorem nf_steps (l : List Node) : Steps l (nf l) := nfF_steps _ _
theorem nf_normal (l : List Node) : Normal (nf l) := nfF_normal _ _ (Nat.le_refl _)
theorem Normal.stay {l m : List Node} (h : Normal l) (s : Steps l m) : m = l := by
  cases s with
  | refl => rfl
  | tail a _ => exact absurd a (h _)
theorem nf_uniq : ∀ (k : Nat) {l r r' : List Node}, l.length ≤ k → Steps l r → Normal r → Steps l r' → Normal r' → r = r'
  | 0, l, r, r', hk, s, n, s', n' => by
    have : l = [] := List.length_eq_zero_iff.mp (Nat.le_zero.mp hk)
    subst this
    have n0 : Normal [] := step1_none rfl
    rw [n0.stay s, n0.stay s']
  | k + 1, l, r, r', hk, s, n, s', n' => by
    cases s with
    | refl => exact (n.stay s').symm
    | tail a s =>
      cases s' with
      | refl => exact absurd a (n' _)
      | tail a' s' =>
        obtain ⟨z, z1, z2⟩ := stp_conf a a'
        have l1 := a.len
        have l2 := a'.len
        have e1 := nf_uniq k (by lia) s n (z1.trans (nf_steps z)) (nf_normal z)
        have e2 := nf_uniq k (by lia) s' n' (z2.trans (nf_steps z)) (nf_normal z)
        rw [e1, e2]
theorem nf_is {l r : List Node} (s : Steps l r) (n : Normal r) : r = nf l := nf_uniq _ (Nat.le_refl _) s n (nf_steps l) (nf_normal l)

mutual
noncomputable def joinN : Node → Node
  | .leaf op => .leaf op
  | .one op l => .one op (nf (joinM l))
  | .two op l m => .two op (nf (joinM l)) (nf (joinM m))
noncomputable def joinM : List Node → List Node
  | [] => []
  | n :: r => joinN n :: joinM r
end
noncomputable def joinL (l : List Node) : List Node := nf (joinM l)
theorem joinM_map : ∀ l, joinM l = l.map joinN
  | [] => rfl
  | n :: r => by simp [joinM, joinM_map r]
theorem joinM_len (l : List Node) : (joinM l).length = l.length := by rw [joinM_map]; simp
noncomputable def NormF (l : List Node) (j : Int) : Prop := ∀ (i : Nat) a b, j < i → l[i]? = some a → l[i + 1]? = some b → twoD a b = none
theorem NormF.normal {l : List Node} {j : Int} (hj : j < 0) (h : NormF l j) : Normal l := by
  intro m s
  cases s with
  | mk p a b x r t =>
    have := h p.length a b (by lia) (by simp) (by rw [List.getElem?_append_right (by lia)]; simp)
    rw [t.is] at this; cases this
theorem stp_at {l : List Node} {i : Nat} {a b : Node} {x : List Node} (ha : l[i]? = some a) (hb : l[i + 1]? = some b) (e : twoD a b = some x) : Stp l (l.take i ++ (x ++ l.drop (i + 2))) := by
  have h1 : i < l.length := by rcases Nat.lt_or_ge i l.length with q | q; exact q; rw [List.getElem?_eq_none q] at ha; cases ha
  have h2 : i + 1 < l.length := by rcases Nat.lt_or_ge (i + 1) l.length with q | q; exact q; rw [List.getElem?_eq_none q] at hb; cases hb
  rw [List.getElem?_eq_getElem h1] at ha
  rw [List.getElem?_eq_getElem h2] at hb
  simp at ha hb
  have el : l = l.take i ++ a :: b :: l.drop (i + 2) := by
    have e1 : l.drop i = l[i] :: l.drop (i + 1) := List.drop_eq_getElem_cons h1
    have e2 : l.drop (i + 1) = l[i + 1] :: l.drop (i + 1 + 1) := List.drop_eq_getElem_cons h2
    conv => lhs; rw [← List.take_append_drop i l, e1, e2, ha, hb]
  have := Stp.mk (l.take i) a b x (l.drop (i + 2)) (two_of e)
  rwa [← el] at this
theorem Normal.all {l : List Node} (h : Normal l) : NormF l (-1) := by
  intro i a b _ ha hb
  cases e : twoD a b with
  | none => rfl
  | some x => exact absurd (stp_at ha hb e) (h _)

theorem Two.good {m : Int} {a b : Node} {x : List Node} (t : Two a b x) (ha : GoodN m a) : GoodL m x := by
  have key : ∀ {c i : Int}, LeafOp m [c, i] → 32 ≤ c → c ≤ 34 → ∀ d, 32 ≤ d → d ≤ 34 → LeafOp m [d, i] := by
    intro c i h h1 h2 d h3 h4
    rcases h with ⟨c', i', e, _, _, h5, h6⟩ | ⟨c', e⟩ | e | e | e
    · simp at e; obtain ⟨rfl, rfl⟩ := e; exact .inl ⟨d, i, rfl, h3, h4, h5, h6⟩
    · simp at e; lia
    · simp at e
    · simp at e; lia
    · simp at e
  cases t with
  | sg i => exact ⟨key ha (by lia) (by lia) _ (by lia) (by lia), trivial⟩
  | gs i => trivial
  | ts i => exact ⟨key ha (by lia) (by lia) _ (by lia) (by lia), trivial⟩
  | gt i => exact ⟨key ha (by lia) (by lia) _ (by lia) (by lia), trivial⟩
  | tt i => exact ⟨key ha (by lia) (by lia) _ (by lia) (by lia), trivial⟩
theorem Stp.good {m : Int} {l k : List Node} (s : Stp l k) (h : GoodL m l) : GoodL m k := by
  cases s with
  | mk p a b x r t =>
    obtain ⟨h1, h2, h3, h4⟩ := GoodL.append.mp h
    exact GoodL.append.mpr ⟨h1, GoodL.append.mpr ⟨t.good h2, h4⟩⟩
theorem Steps.good {m : Int} {l k : List Node} (s : Steps l k) (h : GoodL m l) : GoodL m k := by
  induction s with
  | refl => exact h
  | tail a _ ih => exact ih (a.good h)
mutual
theorem joinN_good {m : Int} : ∀ {n : Node}, GoodN m n → GoodN m (joinN n)
  | .leaf _, h => h
  | .one _ l, h => ⟨h.1, (nf_steps _).good (joinM_good h.2)⟩
  | .two _ l k, h => ⟨h.1, (nf_steps _).good (joinM_good h.2.1), (nf_steps _).good (joinM_good h.2.2)⟩
theorem joinM_good {m : Int} : ∀ {l : List Node}, GoodL m l → GoodL m (joinM l)
  | [], _ => trivial
  | n :: r, h => ⟨joinN_good h.1, joinM_good h.2⟩
end
theorem joinL_good {m : Int} {l : List Node} (h : GoodL m l) : GoodL m (joinL l) := (nf_steps _).good (joinM_good h)

theorem Stp.flat {l k : List Node} (s : Stp l k) : (flatL k).length ≤ (flatL l).length := by
  cases s with
  | mk p a b x r t =>
    simp only [flatL_append, flatL, List.length_append]
    have := flatN_pos a
    have : (flatL x).length ≤ 1 := by cases t <;> simp [flatL, flatN]
    lia
theorem Steps.flat {l k : List Node} (s : Steps l k) : (flatL k).length ≤ (flatL l).length := by
  induction s with
  | refl => exact Nat.le_refl _
  | tail a _ ih => have := a.flat; lia
mutual
theorem joinN_flat : ∀ n : Node, (flatN (joinN n)).length ≤ (flatN n).length
  | .leaf _ => Nat.le_refl _
  | .one _ l => by have h1 := Nat.le_trans (nf_steps (joinM l)).flat (joinM_flat l); simp [joinN, flatN]; exact h1
  | .two _ l k => by
    have h1 := Nat.le_trans (nf_steps (joinM l)).flat (joinM_flat l)
    have h2 := Nat.le_trans (nf_steps (joinM k)).flat (joinM_flat k)
    simp [joinN, flatN]; exact Nat.add_le_add h1 (Nat.add_le_add_right h2 2)
theorem joinM_flat : ∀ l : List Node, (flatL (joinM l)).length ≤ (flatL l).length
  | [] => Nat.le_refl _
  | n :: r => by have h1 := joinN_flat n; have h2 := joinM_flat r; simp [joinM, flatL]; exact Nat.add_le_add h1 h2
end
theorem joinL_flat (l : List Node) : (flatL (joinL l)).length ≤ (flatL l).length := Nat.le_trans (nf_steps _).flat (joinM_flat l)
theorem Stp.dep {l k : List Node} (s : Stp l k) : depL k ≤ depL l := by
  cases s with
  | mk p a b x r t =>
    have : depL x = 0 := by cases t <;> simp [depL, depN]
    simp only [depL_append, depL, this]
    exact mx4 _ _ _ _
theorem Steps.dep {l k : List Node} (s : Steps l k) : depL k ≤ depL l := by
  induction s with
  | refl => exact Nat.le_refl _
  | tail a _ ih => have := a.dep; lia
mutual
theorem joinN_dep : ∀ n : Node, depN (joinN n) ≤ depN n
  | .leaf _ => Nat.le_refl _
  | .one _ l => by have h1 := Nat.le_trans (nf_steps (joinM l)).dep (joinM_dep l); simp [joinN, depN]; exact h1
  | .two _ l k => by
    have h1 := Nat.le_trans (nf_steps (joinM l)).dep (joinM_dep l)
    have h2 := Nat.le_trans (nf_steps (joinM k)).dep (joinM_dep k)
    simp [joinN, depN]; exact mx_mono h1 h2
theorem joinM_dep : ∀ l : List Node, depL (joinM l) ≤ depL l
  | [] => Nat.le_refl _
  | n :: r => by have h1 := joinN_dep n; have h2 := joinM_dep r; simp [joinM, depL]; exact mx_mono h1 h2
end
theorem joinL_dep (l : List Node) : depL (joinL l) ≤ depL l := Nat.le_trans (nf_steps _).dep (joinM_dep l)
structure Opn where
  op : List Int
  fst : Option (List Node)
  up : List Node
noncomputable def zrun : List (List Int) → List Node → List Opn → Option (List Node)
  | [], cur, fs => if fs.isEmpty then some cur else none
  | op :: r, cur, fs =>
    if op.headD 0 = 2 ∨ op.headD 0 = 3 ∨ op.headD 0 = 4 then zrun r [] (⟨op, none, cur⟩ :: fs)
    else if op.headD 0 = 5 then (match fs with
      | ⟨o, none, up⟩ :: q => zrun r [] (⟨o, some cur, up⟩ :: q)
      | _ => none)
    else if op.headD 0 = 11 then (match fs with
      | ⟨o, none, up⟩ :: q => zrun r (up ++ [.one o cur]) q
      | ⟨o, some f, up⟩ :: q => zrun r (up ++ [.two o f cur]) q
      | [] => none)
    else zrun r (cur ++ [.leaf op]) fs
theorem zr_open {op r cur fs} (h : op.headD 0 = 2 ∨ op.headD 0 = 3 ∨ op.headD 0 = 4) : zrun (op :: r) cur fs = zrun r [] (⟨op, none, cur⟩ :: fs) := by
  rw [zrun.eq_def]; exact if_pos h
theorem zr_else {op r cur o up q} (h : op.headD 0 = 5) : zrun (op :: r) cur (⟨o, none, up⟩ :: q) = zrun r [] (⟨o, some cur, up⟩ :: q) := by
  rw [zrun.eq_def]; exact (if_neg (by lia)).trans (if_pos h)
theorem zr_end1 {op r cur o up q} (h : op.headD 0 = 11) : zrun (op :: r) cur (⟨o, none, up⟩ :: q) = zrun r (up ++ [.one o cur]) q := by
  rw [zrun.eq_def]; exact (if_neg (by lia)).trans ((if_neg (by lia)).trans (if_pos h))
theorem zr_end2 {op r cur o f up q} (h : op.headD 0 = 11) : zrun (op :: r) cur (⟨o, some f, up⟩ :: q) = zrun r (up ++ [.two o f cur]) q := by
  rw [zrun.eq_def]; exact (if_neg (by lia)).trans ((if_neg (by lia)).trans (if_pos h))
theorem zr_leaf {op r cur fs} (h : ¬ (op.headD 0 = 2 ∨ op.headD 0 = 3 ∨ op.headD 0 = 4)) (h5 : ¬ op.headD 0 = 5) (h11 : ¬ op.headD 0 = 11) : zrun (op :: r) cur fs = zrun r (cur ++ [.leaf op]) fs := by
  rw [zrun.eq_def]; exact (if_neg h).trans ((if_neg h5).trans (if_neg h11))
mutual
theorem zrun_node {m : Int} : ∀ (n : Node) (rest : List (List Int)) (cur : List Node) (fs : List Opn), GoodN m n → zrun (flatN n ++ rest) cur fs = zrun rest (cur ++ [n]) fs
  | .leaf op, rest, cur, fs, h => by
    have : ¬ (op.headD 0 = 2 ∨ op.headD 0 = 3 ∨ op.headD 0 = 4) ∧ ¬ op.headD 0 = 5 ∧ ¬ op.headD 0 = 11 := by
      rcases h with ⟨c, i, rfl, h1, h2, _, _⟩ | ⟨c, rfl⟩ | rfl | rfl | rfl <;> simp <;> lia
    exact zr_leaf this.1 this.2.1 this.2.2
  | .one op l, rest, cur, fs, h => by
    have ho : op.headD 0 = 2 ∨ op.headD 0 = 3 ∨ op.headD 0 = 4 := by rcases h.1 with rfl | rfl | rfl <;> simp
    show zrun (op :: ((flatL l ++ [[11]]) ++ rest)) cur fs = _
    rw [zr_open ho, List.append_assoc, zrun_list l _ _ _ h.2]
    show zrun ([11] :: rest) _ _ = _
    rw [zr_end1 (by simp)]; simp
  | .two op l k, rest, cur, fs, h => by
    have ho : op.headD 0 = 2 ∨ op.headD 0 = 3 ∨ op.headD 0 = 4 := by rw [h.1]; simp
    show zrun (op :: ((flatL l ++ [5] :: (flatL k ++ [[11]])) ++ rest)) cur fs = _
    rw [zr_open ho, List.append_assoc, zrun_list l _ _ _ h.2.1]
    show zrun ([5] :: ((flatL k ++ [[11]]) ++ rest)) _ _ = _
    rw [zr_else (by simp), List.append_assoc, zrun_list k _ _ _ h.2.2]
    show zrun ([11] :: rest) _ _ = _
    rw [zr_end2 (by simp)]; simp
theorem zrun_list {m : Int} : ∀ (l : List Node) (rest : List (List Int)) (cur : List Node) (fs : List Opn), GoodL m l → zrun (flatL l ++ rest) cur fs = zrun rest (cur ++ l) fs
  | [], rest, cur, fs, _ => by simp [flatL]
  | n :: r, rest, cur, fs, h => by
    rw [flatL, List.append_assoc, zrun_node n _ _ _ h.1, zrun_list r _ _ _ h.2]; simp
end
theorem zrun_flat {m : Int} {l : List Node} (h : GoodL m l) : zrun (flatL l) [] [] = some l := by
  have := zrun_list l [] [] [] h
  simpa [zrun] using this
section
variable {K : Type} [DecidableEq K]
theorem valueAt_cons (a : K × Value) (r : List (K × Value)) (i : K) : valueAt (a :: r) i = if a.1 = i then some a.2 else valueAt r i := by
  unfold valueAt; rw [List.find?_cons]
  by_cases h : a.1 = i <;> simp [h]
theorem valueAt_put (kvs : List (K × Value)) (k i : K) (v : Value) : valueAt (kvs.map fun kv => if kv.1 = k then (kv.1, v) else kv) i = if i = k then (valueAt kvs i).map (fun _ => v) else valueAt kvs i := by
  induction kvs with
  | nil => simp [valueAt]
  | cons a r ih =>
    rw [List.map_cons, valueAt_cons, valueAt_cons, ih]
    by_cases h1 : a.1 = k
    · simp only [if_pos h1]
      by_cases h2 : a.1 = i
      · have : i = k := h2 ▸ h1
        simp [h2, this]
      · simp [h2]
    · simp only [if_neg h1]
      by_cases h2 : a.1 = i
      · have : ¬ i = k := fun q => h1 (h2.trans q)
        simp [h2, this]
      · simp [h2]
theorem valueAt_app (kvs m : List (K × Value)) (i : K) : valueAt (kvs ++ m) i = (valueAt kvs i).or (valueAt m i) := by
  induction kvs with
  | nil => simp [valueAt]
  | cons a r ih =>
    rw [List.cons_append, valueAt_cons, valueAt_cons, ih]
    split <;> simp
theorem valueAt_any (kvs : List (K × Value)) (k : K) : (kvs.any fun kv => decide (kv.1 = k)) = (valueAt kvs k).isSome := by
  induction kvs with
  | nil => rfl
  | cons a r ih => rw [List.any_cons, valueAt_cons, ih]; by_cases h : a.1 = k <;> simp [h]
theorem valueAt_stored (kvs : List (K × Value)) (k i : K) (v : Value) : valueAt (stored kvs k v) i = if i = k then some v else valueAt kvs i := by
  unfold stored
  rw [valueAt_any]
  by_cases h : (valueAt kvs k).isSome = true
  · rw [if_pos h, valueAt_put]
    by_cases e : i = k
    · subst e; obtain ⟨x, hx⟩ := Option.isSome_iff_exists.mp h; simp [hx]
    · simp [e]
  · rw [if_neg h, valueAt_app, valueAt_cons]
    have hn : valueAt kvs k = none := by simpa using h
    by_cases e : i = k
    · subst e; simp [hn]
    · simp [e, Ne.symm e, valueAt]
end
noncomputable def rd (ops : List (List Int)) (i : Int) : Bool := decide ([32, i] ∈ ops)
noncomputable def cnt (ops : List (List Int)) (p : Nat) : Nat → Nat
  | 0 => 0
  | n + 1 => cnt ops p n + if rd ops ((p + n : Nat) : Int) then 1 else 0
noncomputable def ren (ops : List (List Int)) (p : Nat) (i : Int) : Int := if i < p then i else p + cnt ops p (i - p).toNat
noncomputable def kown (ops : List (List Int)) (p : Nat) (own : List Int) : Nat → List Int
  | 0 => []
  | n + 1 => kown ops p own n ++ if rd ops ((p + n : Nat) : Int) then [own.getD n 0] else []
noncomputable def keptOwn (ops : List (List Int)) (p : Nat) (own : List Int) : List Int := kown ops p own own.length
noncomputable def keptOp (ops : List (List Int)) (p : Nat) : List Int → List (List Int)
  | [c, i] => if 32 ≤ c ∧ c ≤ 34 then (if rd ops i then [[c, ren ops p i]] else if c = 33 then [[26]] else []) else [[c, i]]
  | op => [op]
noncomputable def keptOps (ops : List (List Int)) (p : Nat) (l : List (List Int)) : List (List Int) := l.flatMap (keptOp ops p)
theorem kown_len (ops : List (List Int)) (p : Nat) (own : List Int) : ∀ n, (kown ops p own n).length = cnt ops p n
  | 0 => rfl
  | n + 1 => by rw [kown, cnt, List.length_append, kown_len ops p own n]; split <;> rfl
theorem cnt_le (ops : List (List Int)) (p : Nat) : ∀ n, cnt ops p n ≤ n
  | 0 => Nat.le_refl _
  | n + 1 => by have := cnt_le ops p n; rw [cnt]; split <;> lia
theorem cnt_mono (ops : List (List Int)) (p : Nat) (n : Nat) : ∀ k, cnt ops p n ≤ cnt ops p (n + k)
  | 0 => Nat.le_refl _
  | k + 1 => by have := cnt_mono ops p n k; rw [← Nat.add_assoc, cnt]; exact Nat.le_trans this (Nat.le_add_right _ _)
theorem ren_lo (ops : List (List Int)) (p : Nat) {i : Int} (h : i < p) : ren ops p i = i := if_pos h
theorem ren_hi (ops : List (List Int)) (p n : Nat) : ren ops p ((p + n : Nat) : Int) = p + cnt ops p n := by
  unfold ren; rw [if_neg (by lia)]
  have := psub p n
  rw [this]
theorem keptOps_take {ops : List (List Int)} {p : Nat} {l : List (List Int)} {i : Nat} {op : List Int} (h : l[i]? = some op) : keptOps ops p (l.take (i + 1)) = keptOps ops p (l.take i) ++ keptOp ops p op := by
  unfold keptOps; rw [List.take_add_one, h, List.flatMap_append]; simp
inductive OpCase (m : Int) : List Int → Prop
  | loc {c i} : 32 ≤ c → c ≤ 34 → 0 ≤ i → i < m → OpCase m [c, i]
  | oth {c t} : ¬ (32 ≤ c ∧ c ≤ 34) → OpCase m (c :: t)
theorem keptOp_oth {ops : List (List Int)} {p : Nat} {c : Int} {t : List Int} (h : ¬ (32 ≤ c ∧ c ≤ 34)) : keptOp ops p (c :: t) = [c :: t] := by
  unfold keptOp
  split
  · rename_i c' i e; cases e; rw [if_neg h]
  · rfl
theorem keptOp2 (ops : List (List Int)) (p : Nat) (c i : Int) : keptOp ops p [c, i] = if 32 ≤ c ∧ c ≤ 34 then (if rd ops i then [[c, ren ops p i]] else if c = 33 then [[26]] else []) else [[c, i]] := rfl
theorem keptOp_get {ops : List (List Int)} {p : Nat} {c i : Int} (h1 : 32 ≤ c) (h2 : c ≤ 34) (hr : rd ops i = true) : keptOp ops p [c, i] = [[c, ren ops p i]] := by
  rw [keptOp2, if_pos ⟨h1, h2⟩, if_pos hr]
theorem keptOp_set {ops : List (List Int)} {p : Nat} {i : Int} (hr : rd ops i = false) : keptOp ops p [33, i] = [[26]] := by
  rw [keptOp2, if_pos (by decide), if_neg (by rw [hr]; decide), if_pos rfl]
theorem keptOp_tee {ops : List (List Int)} {p : Nat} {i : Int} (hr : rd ops i = false) : keptOp ops p [34, i] = [] := by
  rw [keptOp2, if_pos (by decide), if_neg (by rw [hr]; decide), if_neg (by decide)]
theorem keptOp_len (ops : List (List Int)) (p : Nat) (op : List Int) : (keptOp ops p op).length ≤ 1 := by
  unfold keptOp
  repeat' split
  all_goals simp
theorem keptOps_len (ops : List (List Int)) (p : Nat) : ∀ l, (keptOps ops p l).length ≤ l.length
  | [] => Nat.le_refl _
  | op :: r => by
    have h1 := keptOp_len ops p op
    have h2 := keptOps_len ops p r
    unfold keptOps at h2 ⊢
    rw [List.flatMap_cons, List.length_append, List.length_cons]; lia
theorem rd_take {ops : List (List Int)} {j : Nat} {op : List Int} (h : ops[j]? = some op) (i : Int) : rd (ops.take (j + 1)) i = (rd (ops.take j) i || decide (op = [32, i])) := by
  unfold rd; rw [List.take_add_one, h, Bool.eq_iff_iff]
  simp only [Option.toList, List.mem_append, List.mem_singleton, decide_eq_true_eq, Bool.or_eq_true]
  exact ⟨fun q => q.imp id Eq.symm, fun q => q.imp id Eq.symm⟩
theorem rd_of {ops : List (List Int)} {j : Nat} {i : Int} (h : ops[j]? = some [32, i]) : rd ops i = true := by
  unfold rd; exact decide_eq_true (List.mem_of_getElem? h)
noncomputable def rdL (ops : List (List Int)) : Nat → List Int
  | 0 => []
  | n + 1 => rdL ops n ++ if rd ops (n : Int) then [(n : Int)] else []
theorem rdL_mem {ops : List (List Int)} {k : Int} : ∀ {n : Nat}, k ∈ rdL ops n → 0 ≤ k ∧ k < n ∧ rd ops k = true
  | 0, h => by simp [rdL] at h
  | n + 1, h => by
    rw [rdL, List.mem_append] at h
    rcases h with h | h
    · have := rdL_mem h; exact ⟨this.1, by have := this.2.1; push_cast; lia, this.2.2⟩
    · split at h
      · rename_i hr
        rw [List.mem_singleton] at h; subst h
        exact ⟨by lia, by push_cast; lia, hr⟩
      · simp at h
theorem mem_rdL {ops : List (List Int)} {k : Int} (h0 : 0 ≤ k) (hr : rd ops k = true) : ∀ {n : Nat}, k < n → k ∈ rdL ops n
  | 0, h => by lia
  | n + 1, h => by
    rw [rdL, List.mem_append]
    by_cases e : k = n
    · right; rw [← e, if_pos hr]; exact List.mem_singleton.mpr rfl
    · left; exact mem_rdL h0 hr (by push_cast at h; lia)
theorem rdL_any {ops : List (List Int)} {k : Int} {n : Nat} (h0 : 0 ≤ k) (h1 : k < n) : (rdL ops n).any (· == k) = rd ops k := by
  rw [Bool.eq_iff_iff, List.any_eq_true]
  constructor
  · rintro ⟨x, hx, e⟩
    have : x = k := by simpa using e
    subst this; exact (rdL_mem hx).2.2
  · intro h; exact ⟨k, mem_rdL h0 h h1, by simp⟩
theorem rdL_len (ops : List (List Int)) : ∀ n, (rdL ops n).length ≤ n
  | 0 => Nat.le_refl _
  | n + 1 => by have := rdL_len ops n; rw [rdL, List.length_append]; split <;> simp <;> lia
theorem filter_take {α : Type} {l : List α} {j : Nat} {x : α} (f : α → Bool) (h : l[j]? = some x) : (l.take (j + 1)).filter f = (l.take j).filter f ++ if f x = true then [x] else [] := by
  rw [List.take_add_one, h, List.filter_append]
  cases hf : f x <;> simp [hf]
noncomputable def hiB (p : Nat) (k : Int) : Bool := decide ((p : Int) ≤ k)
noncomputable def midB (p : Nat) (i : Int) (k : Int) : Bool := decide ((p : Int) ≤ k) && decide (k < i)
theorem rdL_lo (ops : List (List Int)) (p : Nat) : ∀ n, n ≤ p → (rdL ops n).filter (hiB p) = [] := by
  intro n hn
  rw [List.filter_eq_nil_iff]
  intro k hk
  have := (rdL_mem hk).2.1
  simp [hiB]; lia
theorem rdL_hi (ops : List (List Int)) (p : Nat) (own : List Int) : ∀ q, ((rdL ops (p + q)).filter (hiB p)).map (fun k : Int => own.getD (k - (p : Int)).toNat 0) = kown ops p own q
  | 0 => by rw [Nat.add_zero, rdL_lo ops p p (Nat.le_refl _)]; rfl
  | q + 1 => by
    rw [← Nat.add_assoc, rdL, List.filter_append, List.map_append, rdL_hi ops p own q, kown]
    congr 1
    split
    · have : hiB p ((p + q : Nat) : Int) = true := by simp [hiB]; lia
      rw [List.filter_cons_of_pos this]
      have e := psub p q
      rw [List.map_cons, e]; rfl
    · rfl
theorem rdL_hi_len (ops : List (List Int)) (p q : Nat) : ((rdL ops (p + q)).filter (hiB p)).length = cnt ops p q := by
  have := congrArg List.length (rdL_hi ops p [] q)
  rw [List.length_map, kown_len] at this; exact this
theorem rdL_mid (ops : List (List Int)) (p q : Nat) : ∀ r, ((rdL ops (p + q + r)).filter (midB p ((p + q : Nat) : Int))).length = cnt ops p q
  | 0 => by
    rw [Nat.add_zero, ← rdL_hi_len ops p q]
    congr 1
    apply List.filter_congr
    intro k hk
    have := (rdL_mem hk).2.1
    unfold midB hiB
    rw [decide_eq_true (p := k < ((p + q : Nat) : Int)) this, Bool.and_true]
  | r + 1 => by
    rw [← Nat.add_assoc, rdL, List.filter_append, List.length_append, rdL_mid ops p q r]
    have : (List.filter (midB p ((p + q : Nat) : Int)) (if rd ops ((p + q + r : Nat) : Int) = true then [((p + q + r : Nat) : Int)] else [])) = [] := by
      rw [List.filter_eq_nil_iff]
      intro k hk
      split at hk
      · rw [List.mem_singleton] at hk; subst hk
        simp [midB]; lia
      · simp at hk
    rw [this]; rfl
end Mine
end
section
open PySem PySem.W PyProof.Rows PySem.Calls PySem.SeqAt Builtin.Str
namespace Mine
set_option compiler.extract_closed false
set_option hygiene false in
local macro_rules | `(tactic| walk_at "at") => `(tactic| with_reducible first | exact At.head | (apply At.tail; walk_at "at"))
set_option hygiene false in
local macro_rules | `(tactic| walk_at "put") => `(tactic| with_reducible first | exact Put.head | (apply Put.tail; walk_at "put"))
set_option hygiene false in
local macro_rules | `(tactic| walk_at "mem") => `(tactic| with_reducible first | exact Mem.head | (apply Mem.tail; walk_at "mem"))
set_option hygiene false in
local macro_rules | `(tactic| walk_at "upd") => `(tactic| with_reducible first | exact Upd.head | (apply Upd.tail; walk_at "upd"))
set_option hygiene false in
local macro_rules | `(tactic| walk_at "in") => `(tactic| with_reducible first | exact List.mem_cons_self | (refine List.mem_cons_of_mem _ ?_; walk_at "in"))
set_option hygiene false in
local macro_rules | `(tactic| walk_at "gle") => `(tactic| with_reducible first | exact GLe.refl | assumption | (refine GLe.trans ?_ (by assumption); walk_at "gle"))
set_option hygiene false in
local macro_rules | `(tactic| walk_at "st") => `(tactic| with_reducible first
  | (refine' w_load σ ?k1 ?_; (case k1 => walk_at "at"))
  | (refine' w_global σ hG ?k1 ?k2 ?_; (case k1 => first | exact W.gv_LOCAL_GET | exact W.gv_LOCAL_SET | exact W.gv_LOCAL_TEE | exact W.gv_END | exact W.gv_ELSE | exact W.gv_BLOCK | exact W.gv_LOOP | exact W.gv_IF | exact W.gv_DROP); (case k2 => walk_at "in"))
  | (refine' w_cell σ ?k1 ?k2 ?_; (case k1 => assumption); (case k2 => walk_at "mem"))
  | (refine' sp_cons ?_ ?k1; (case k1 => with_unfolding_all rfl))
  | refine sp_nil ?_
  | (refine' w_storec σ ?k1 ?k2 ?_; (case k1 => assumption); (case k2 => walk_at "upd"); clear σ; intro _ σ)
  | refine e_slice σ ?_
  | refine p_some ?_
  | refine p_none ?_
  | (refine e_int σ ?_; clear σ; intro _ _ σ)
  | refine e_none ?_
  | refine e_tuple ?_
  | refine e_bin ?_
  | (refine i_add σ ?_; clear σ; intro _ _ σ)
  | (refine i_sub σ ?_; clear σ; intro _ _ σ)
  | (refine' tup_new σ ?k1 ?_; (case k1 => with_unfolding_all exact Nat.le_of_ble_eq_true rfl); clear σ; intro ta gg _ σ hgg htg)
  | refine e_sub ?_
  | refine xs_ret ?_
  | (refine' ix_tuple (S.HT σ ?k1) ?k2 ?k3 ?k4 ?_; (case k1 => assumption); (case k2 => decide); (case k3 => decide); (case k4 => with_unfolding_all rfl))
  | (refine' xs_assign ?_ ?k1; (case k1 => with_unfolding_all rfl))
  | (refine' w_store σ ?k1 ?_; (case k1 => walk_at "put"); clear σ; intro _ σ)
  | (refine' t_cmp ?_ ?k1; (case k1 => with_unfolding_all rfl))
  | (refine' ix_list (S.HLg σ ?k1) ?k2 ?k3 ?k4 ?_; (case k1 => assumption); (case k2 => lia); (case k3 => lia); (case k4 => assumption))
  | refine c_eq ?_
  | refine c_lt ?_
  | refine c_gt ?_
  | refine c_le ?_
  | refine c_ge ?_
  | refine c_ne ?_
  | refine tr_bool ?_
  | refine t_bool ?_
  | refine t_and ?_
  | refine t_or ?_
  | refine t_and_nil ?_
  | refine t_or_nil ?_
  | refine t_not ?_
  | refine sp_t ?_
  | refine sp_f ?_
  | refine sp_n ?_
  | (refine' sp_ct ?_ ?k1; (case k1 => decide))
  | (refine' sp_cf ?_ ?k1; (case k1 => decide))
  | (refine' t_chain2 ?_ ?k1; (case k1 => with_unfolding_all rfl))
  | refine e_ifx ?_
  | refine e_un ?_
  | (refine i_neg σ ?_; clear σ; intro _ _ σ)
  | (refine' i_mod σ ?k1 ?_; (case k1 => with_unfolding_all decide); clear σ; intro _ _ σ)
  | (refine' i_fdiv σ ?k1 ?k2 ?_; (case k1 => with_unfolding_all decide); (case k2 => with_unfolding_all decide); clear σ; intro _ _ σ)
  | (refine' e_cmp ?_ ?k1; (case k1 => with_unfolding_all rfl))
  | refine e_bool ?_
  | (refine e_str σ ?_; clear σ; intro _ _ σ)
  | refine e_list ?_
  | (refine' list_new σ ?k1 ?_; (case k1 => with_unfolding_all exact Nat.le_of_ble_eq_true rfl); clear σ; intro la _ σ hla)
  | (refine' unpack_tup σ hA (S.HT σ ?k1) ?k2 ?_; (case k1 => assumption); (case k2 => with_unfolding_all rfl); clear σ; intro _ σ)
  | refine assigns_rev2 ?_
  | refine assigns_rev3 ?_
  | refine assigns_bind ?_
  | refine assigns_name ?_
  | refine assigns_nil ?_
  | refine a_name ?_
  | refine isnt_nn ?_
  | refine isnt_rn ?_
  | refine is_nn ?_
  | refine is_sn ?_
  | refine is_rn ?_
  | refine xs_nil ?_
  | refine xs_pass ?_
  | (refine' e_attr ?_ ?k1; (case k1 => with_unfolding_all rfl))
  | (refine' xs_sub ?_ ?k1; (case k1 => with_unfolding_all rfl))
  | (refine' xs_attr ?_ ?k1; (case k1 => with_unfolding_all rfl))
  | refine seq_next ?_
  | refine turn_next ?_
  | refine seq_ret ?_
  | (refine' xs_expr σ ?_ ?k1; (case k1 => with_unfolding_all rfl))
  | (refine' t_value ?_ ?k1; (case k1 => with_unfolding_all rfl))
  | refine hN _ _ _ _ ?_ σ
  | refine hT (.ret _) _ ?_
  | refine hU _ _ ?_)
set_option hygiene false in
local macro_rules | `(tactic| walk_at "W") => `(tactic| repeat walk_at "st")
section
variable {prog : Program} {w : World} {A : Around} {hb : Heap} {g : FH} {s : Shared} {R : Result → Shared → Prop}

noncomputable def IsI (ns : List Int) (o : Obj) : Prop := ∃ vs, IsL vs o ∧ IntsAre vs ns

theorem next_c (W : Wld hb) (room : Room 2 A) (hz : Frz hb g s)
    {t : Addr} {ns : List Int} (ht : ∃ o, s.heap.get? t = some o ∧ IsI ns o) (hg : g t = none) (hlen : ns.length ≤ 1000)
    (k : ∀ s' tk, Ext [t] s s' → (∃ o, s'.heap.get? t = some o ∧ IsI ns.tail o) → R (.ok (.ret (.int (ns.headD 0) tk))) s') :
    codeAny (model prog w) A (.call (.ref 262) ⟨[.ref t], []⟩) R s := by
  obtain ⟨o, ho, vs, hv, hi⟩ := ht
  refine start (led := [(t, IsL vs)]) [t] [(n_tape, .ref t)] [] [] (ns := [n_tape]) (vs := [some (.ref t)]) W.fn_wnext (room_depth room) hz (BindsTo.of_eq rfl) rfl rfl (by decide +kernel) (by simpa using ⟨o, ho, hv⟩) (by simp) (by simp [hg]) ?_
  intro env E s₁ hG σ
  have R1 : Room 1 (A.deeper env) := room.deeper
  (show wpAny _ _ (execs (_ :: _) _) _ _ _; dsimp only [qn_BLOCK, qn_DROP, qn_ELSE, qn_END, qn_FUNCTION, qn_Func, qn_IF, qn_LOCAL_GET, qn_LOCAL_SET, qn_LOCAL_TEE, qn_LOOP, qn_Module, qn_Piece, qn__name__, qn_law_behind, qn_law_flat, qn_law_is_kept_right, qn_law_items, qn_law_join, qn_law_joined, qn_law_kept, qn_law_next, qn_law_pick, qn_law_run, qn_law_two, qn_wall, qn_ahead, qn_at, qn_body, qn_body_of, qn_codes, qn_deep, qn_due, qn_first, qn_found, qn_func, qn_given, qn_height, qn_here, qn_index, qn_inner, qn_int, qn_is_else, qn_items, qn_join_last, qn_join_locals, qn_k, qn_kept, qn_kind, qn_len, qn_list, qn_local, qn_locals_now, qn_many, qn_module, qn_name, qn_number, qn_one, qn_opened, qn_other, qn_out, qn_own, qn_params, qn_part, qn_parts_of, qn_piece, qn_pieces, qn_pieces_of, qn_place, qn_places, qn_plain, qn_property, qn_put_pieces, qn_range, qn_read, qn_rest, qn_script, qn_second, qn_self, qn_sign, qn_sort, qn_stack, qn_state, qn_sum, qn_tape, qn_thing, qn_things, qn_told, qn_tuple, qn_turn, qn_two, qn_values, qn_way, qn_without_locals, qn_word])
  walk_at "W"
  refine c_ne_nil (σ.HL (.tail .head)) (σ.HL .head) (room_units R1) ?_
  walk_at "W"
  cases vs with
  | nil =>
    cases ns with
    | cons _ _ => cases hi
    | nil =>
    refine ⟨fun _ => ?_, fun q => absurd q (by simp)⟩
    refine e_int σ fun tk s₃ σ₃ => ?_
    exact k s₃ tk σ₃.ext ⟨_, (σ₃.get (.tail .head)).choose_spec.1, _, (σ₃.get (.tail .head)).choose_spec.2, .nil⟩
  | cons v vs =>
    refine ⟨fun q => absurd q (by simp), fun _ => ?_⟩
    refine m_pop0 ?_
    refine w_load σ (by walk_at "at") ⟨_, _, rfl, σ.HL (.tail .head), ?_⟩
    refine e_int σ fun tk s₃ σ₃ => ⟨tk, _, _, rfl, σ₃.HL (.tail .head), ?_, fun s₄ x h => ?_⟩
    · have := hi.length
      simp only [List.length_cons] at this
      have : sizeLine = 16777216 := rfl
      lia
    · have σ₄ := σ₃.modL (.tail .head) x h
      cases hi
      exact k s₄ _ σ₄.ext ⟨_, (σ₄.get (.tail .head)).choose_spec.1, _, (σ₄.get (.tail .head)).choose_spec.2, by assumption⟩
end
section
variable {prog : Program} {w : World} {A : Around} {hb : Heap} {g : FH} {s : Shared} {R : Result → Shared → Prop}

noncomputable def IsSt (prog : Program) (w : World) (m : Int) (o : Obj) : Prop := ∃ loc tk tk', 0 ≤ loc ∧ loc < m ∧ IsD (strKind prog w) [(n_local, Value.int loc tk), (n_many, Value.int m tk')] o

theorem valueAt_local' (a b : Value) : valueAt [(n_local, a), (n_many, b)] n_local = some a := by with_unfolding_all rfl
theorem ld_local {s0 : Shared} {mods : List Addr} {g0 : FH} {env : Env} {ns : List Str} {vs : List (Option Value)} {led : Led} {E : Value → Shared → Prop} (σ : S hb s0 mods g0 env ns vs led g s) {d : Addr} {m : Int} {value slice : Expr} {t : Tok} {Q : Value → Shared → Prop} (hm : Mem led d (IsSt prog w m))
    (h : ∀ loc tk s', 0 ≤ loc → loc < m → S hb s0 mods g0 env ns vs led g s' → Q (.int loc tk) s')
    (hs : subscripted slice false (.ref d) (.str n_local t) = operate [.ref d, .str n_local t] (getItem (.ref d) (.str n_local t)) := by with_unfolding_all rfl) : wpAny (model prog w) A (subscriptTail value slice (.ref d) (.str n_local t)) Q E s := by
  obtain ⟨o, e, loc, tk, tk', h0, h1, hd⟩ := σ.get hm
  exact ix_dict σ (knd := strKind prog w) (k := n_local) (Heap.dictOf_iff.mpr ⟨o, e, hd⟩) (strKind_is ..) (v := .int loc tk) (by rw [valueAt_local']) (fun s' σ => h _ _ _ h0 h1 σ) hs
structure WayOk (way h deep : Int) : Prop where
  lo : 1 ≤ way
  hi : way ≤ 8
  set : way = 2 ∨ way = 3 → 1 ≤ h
  add : way = 5 → 2 ≤ h
  call : way = 6 → 1 ≤ h
  deep : 7 ≤ way → deep < 2

theorem valueAt_many (a b : Value) : valueAt [(n_local, a), (n_many, b)] n_many = some b := by with_unfolding_all rfl
theorem valueAt_local (a b : Value) : valueAt [(n_local, a), (n_many, b)] n_local = some a := by with_unfolding_all rfl
theorem stored_local (a b v : Value) : stored [(n_local, a), (n_many, b)] n_local v = [(n_local, v), (n_many, b)] := by with_unfolding_all rfl

theorem pick_c (W : Wld hb) (room : Room 5 A) (hz : Frz hb g s)
    {t d : Addr} {ns : List Int} {m h deep : Int} {th td : Tok} (ht : ∃ o, s.heap.get? t = some o ∧ IsI ns o) (hg : g t = none) (hd : ∃ o, s.heap.get? d = some o ∧ IsSt prog w m o) (hgd : g d = none) (hne : t ≠ d)
    (hlen : ns.length ≤ 1000) (hh : 0 ≤ h) (hdp : deep ≤ 2)
    (k : ∀ s' a g' way rest tw tr, Ext [t, d] s s' → Grown g s g' s' → TG g' a [.int way tw, .int rest tr] → (∃ o, s'.heap.get? t = some o ∧ IsI ns.tail o) → (∃ o, s'.heap.get? d = some o ∧ IsSt prog w m o) →
      WayOk way h deep → R (.ok (.ret (.ref a))) s') :
    codeAny (model prog w) A (.call (.ref 269) ⟨[.ref t, .ref d, .int h th, .int deep td], []⟩) R s := by
  refine start (led := [(t, IsI ns), (d, IsSt prog w m)]) [t, d] [(n_tape, .ref t), (n_state, .ref d), (n_height, .int h th), (n_deep, .int deep td)] [n_number, n_way, n_rest] [n_law_next]
    (ns := [n_tape, n_state, n_height, n_deep, n_number, n_way, n_rest]) (vs := [some (.ref t), some (.ref d), some (.int h th), some (.int deep td), none, none, none]) W.fn_wpick (room_depth room) hz (BindsTo.of_eq rfl) rfl rfl (by decide +kernel) (by
      intro p hp
      rcases List.mem_cons.mp hp with rfl | hp
      · exact ht
      · rw [List.mem_singleton.mp hp]; exact hd) (by simp [hne]) (by simp [hg, hgd]) ?_
  intro env E s₁ hG σ
  have R1 : Room 4 (A.deeper env) := room.deeper
  have hA : (A.deeper env).handled = none := R1.1
  (show wpAny _ _ (execs (_ :: _) _) _ _ _; dsimp only [qn_BLOCK, qn_DROP, qn_ELSE, qn_END, qn_FUNCTION, qn_Func, qn_IF, qn_LOCAL_GET, qn_LOCAL_SET, qn_LOCAL_TEE, qn_LOOP, qn_Module, qn_Piece, qn__name__, qn_law_behind, qn_law_flat, qn_law_is_kept_right, qn_law_items, qn_law_join, qn_law_joined, qn_law_kept, qn_law_next, qn_law_pick, qn_law_run, qn_law_two, qn_wall, qn_ahead, qn_at, qn_body, qn_body_of, qn_codes, qn_deep, qn_due, qn_first, qn_found, qn_func, qn_given, qn_height, qn_here, qn_index, qn_inner, qn_int, qn_is_else, qn_items, qn_join_last, qn_join_locals, qn_k, qn_kept, qn_kind, qn_len, qn_list, qn_local, qn_locals_now, qn_many, qn_module, qn_name, qn_number, qn_one, qn_opened, qn_other, qn_out, qn_own, qn_params, qn_part, qn_parts_of, qn_piece, qn_pieces, qn_pieces_of, qn_place, qn_places, qn_plain, qn_property, qn_put_pieces, qn_range, qn_read, qn_rest, qn_script, qn_second, qn_self, qn_sign, qn_sort, qn_stack, qn_state, qn_sum, qn_tape, qn_thing, qn_things, qn_told, qn_tuple, qn_turn, qn_two, qn_values, qn_way, qn_without_locals, qn_word])
  refine xs_assign ?_
  refine e_call σ hG W.gv_wnext W.fn_wnext (by walk_at "in") ?_
  walk_at "W"
  refine ⟨σ.hbs, w_call (next_c W R1.le σ.fz (σ.get .head) (σ.gl .head) hlen fun s₂ tn x ho => rv ?_)⟩
  replace σ := σ.mod (P' := IsI ns.tail) .head x ho.choose_spec.1 ho.choose_spec.2
  clear x ho
  generalize ns.headD 0 = number
  have hw0 : 0 ≤ number.fmod 9 := Int.fmod_nonneg_of_pos _ (by decide)
  have hw9 : number.fmod 9 < 9 := Int.fmod_lt_of_pos _ (by decide)
  walk_at "W"
  (refine' xs_swap2 σ ?k1 ?k2 ?k3 ?k4 ?k5 ?k6 ?k7 ?k8 ?_ ?k9; (case k1 => walk_at "in"); (case k2 => walk_at "in"); (case k3 => decide); (case k4 => rfl); (case k5 => intro _ _ q; cases q); (case k6 => intro _ _ q; cases q); (case k7 => decide +kernel); (case k8 => decide +kernel); (case k9 => with_unfolding_all rfl))
  walk_at "W"
  generalize number.fmod 9 = w0 at *
  generalize number.fdiv 9 = rest at *
  refine xs_ifjS σ ?_ ?_
  · walk_at "W"
    refine ⟨fun _ => ?_, fun _ => ?_⟩
    · refine xs_sub ?_
      walk_at "W"
      obtain ⟨o, e, loc, tk, tk', h0, h1, hd⟩ := σ.get (.tail .head)
      refine ix_dict σ (knd := strKind prog w) (k := n_many) (Heap.dictOf_iff.mpr ⟨o, e, hd⟩) (strKind_is ..) (v := .int m tk') (by rw [valueAt_many]) fun s' σ => ?_
      refine i_mod σ (by lia) fun tl s' σ => ?_
      walk_at "W"
      obtain ⟨o, e, loc, tk, tk', h0, h1, hd⟩ := σ.get (.tail .head)
      refine st_dict (knd := strKind prog w) (k := n_local) (Heap.dictOf_iff.mpr ⟨o, e, hd⟩) (strKind_is ..) (Nat.le_of_ble_eq_true rfl) fun s' x hd => ?_
      rw [stored_local] at hd
      obtain ⟨o, e, hd⟩ := Heap.dictOf_iff.mp hd
      replace σ := σ.mod (P' := IsSt prog w m) (.tail .head) x e ⟨_, _, _, Int.fmod_nonneg_of_pos _ (by lia), Int.fmod_lt_of_pos _ (by lia), hd⟩
      walk_at "W"
      exact ⟨rfl, _, .refl, σ⟩
    · walk_at "W"
      exact ⟨rfl, _, .refl, σ⟩
  clear σ; intro s₃ g₃ _ σ
  refine xs_ifjV σ n_way (fun v => ∃ w1 tk, v = .int w1 tk ∧ 1 ≤ w1 ∧ w1 < 9) (fun v => by walk_at "put") ?_ ?_
  · walk_at "W"
    refine ⟨fun e => ?_, fun e => ?_⟩
    · walk_at "W"
      refine ⟨fun e => ?_, fun e => ?_⟩
      · walk_at "W"
        refine ⟨rfl, _, _, ?_, ?_, σ⟩
        · walk_at "gle"
        · exact ⟨_, _, rfl, by decide, by decide⟩
      · walk_at "W"
        refine ⟨rfl, _, _, ?_, ?_, σ⟩
        · walk_at "gle"
        · exact ⟨_, _, rfl, by decide, by decide⟩
    · walk_at "W"
      have := of_decide_eq_false e
      refine ⟨rfl, _, _, ?_, ?_, σ⟩
      · walk_at "gle"
      · exact ⟨_, _, rfl, by lia, by lia⟩
  clear σ; rintro _ s₃ g₄ _ ⟨w1, tk, rfl, h1, h9⟩ σ
  refine xs_ifjV σ n_way (fun v => ∃ w1 tk, v = .int w1 tk ∧ 1 ≤ w1 ∧ w1 < 9 ∧ (w1 = 2 ∨ w1 = 3 → 1 ≤ h)) (fun v => by walk_at "put") ?_ ?_
  · walk_at "W"
    refine c_in_ints (σ.HT htg) (.cons 2 _ (.cons 3 _ .nil)) ?_
    walk_at "W"
    have hin : ([2, 3] : List Int).any (· == w1) = true ↔ (w1 = 2 ∨ w1 = 3) := by
      simp only [List.any_cons, List.any_nil, Bool.or_false, Bool.or_eq_true, beq_iff_eq]; exact or_congr eq_comm eq_comm
    refine ⟨fun e => ?_, fun e => ?_⟩
    · have hin' := hin.mp e
      (repeat' (first | walk_at "st" | (with_reducible refine sp_d ?_ ?_ <;> intro _)))
      · refine ⟨rfl, _, _, ?_, ?_, σ⟩
        · walk_at "gle"
        · exact ⟨_, _, rfl, by decide, by decide, by lia⟩
      · refine ⟨rfl, _, _, ?_, ?_, σ⟩
        · walk_at "gle"
        · exact ⟨_, _, rfl, by lia, by lia, by lia⟩
    · have hin' : ¬ (w1 = 2 ∨ w1 = 3) := fun q => by rw [hin.mpr q] at e; cases e
      (repeat' (first | walk_at "st" | (with_reducible refine sp_d ?_ ?_ <;> intro _)))
      refine ⟨rfl, _, _, ?_, ?_, σ⟩
      · walk_at "gle"
      · exact ⟨_, _, rfl, by lia, by lia, by lia⟩
  clear σ; rintro _ s₄ g₅ _ ⟨w2, tk2, rfl, h1, h9, h2⟩ σ
  refine xs_ifjV σ n_way (fun v => ∃ w3 tk, v = .int w3 tk ∧ WayOk w3 h deep) (fun v => by walk_at "put") ?_ ?_
  · refine t_by σ ((w2 = 5 ∧ h < 2) ∨ (w2 = 6 ∧ h = 0) ∨ (6 < w2 ∧ deep = 2)) ?_ ?_ ?_
    · (repeat' (first | walk_at "st" | (with_reducible refine sp_d ?_ ?_ <;> intro _)))
      all_goals (refine ⟨?_, _, ?_, σ⟩; (first | exact iff_of_true rfl (.inl ⟨‹_›, ‹_›⟩) | exact iff_of_true rfl (.inr (.inl ⟨‹_›, ‹_›⟩)) | exact iff_of_true rfl (.inr (.inr ⟨‹_›, ‹_›⟩)) | exact iff_of_false Bool.false_ne_true (fun q => q.elim (fun q => by first | exact absurd q.1 ‹_› | exact absurd q.2 ‹_›) fun q => q.elim (fun q => by first | exact absurd q.1 ‹_› | exact absurd q.2 ‹_›) fun q => by first | exact absurd q.1 ‹_› | exact absurd q.2 ‹_›) | exact iff_of_true rfl (.inl ‹_›) | exact iff_of_true rfl (.inr ⟨‹_›, fun q => absurd q.1 Bool.false_ne_true⟩) | exact iff_of_true rfl (.inr ⟨‹_›, fun q => absurd q.2 ‹_›⟩) | exact iff_of_false Bool.false_ne_true (fun q => q.elim (fun q => absurd q ‹_›) fun q => absurd ‹_› q.1) | exact iff_of_false Bool.false_ne_true (fun q => q.elim (fun q => absurd q ‹_›) fun q => q.2 ⟨rfl, ‹_›⟩) | lia | (simp; lia) | simp_all); (walk_at "gle"))
    · intro _ _ c _ σ
      walk_at "W"
      refine ⟨rfl, _, _, ?_, ?_, σ⟩
      · walk_at "gle"
      · exact ⟨_, _, rfl, by constructor <;> lia⟩
    · intro _ _ c _ σ
      walk_at "W"
      refine ⟨rfl, _, _, ?_, ?_, σ⟩
      · walk_at "gle"
      · exact ⟨_, _, rfl, h1, Int.le_of_lt_add_one h9, h2, fun e => Int.not_lt.1 fun q => c (.inl ⟨e, q⟩), fun e => (Int.lt_or_eq_of_le hh).elim id fun q => absurd (.inr (.inl ⟨e, q.symm⟩)) c, fun e => (Int.lt_or_eq_of_le hdp).elim id fun q => absurd (.inr (.inr ⟨e, q⟩)) c⟩
  clear σ; rintro _ s₅ g₆ _ ⟨w3, tk3, rfl, hok⟩ σ
  walk_at "W"
  exact k _ _ _ _ _ _ _ σ.ext σ.grownOf htg (σ.get .head) (σ.get (.tail .head)) hok
end
section
variable {prog : Program} {w : World} {hb : Heap}

noncomputable def ItemsSpec (prog : Program) (w : World) (hb : Heap) (r K D : Nat) (deep : Int) : Prop :=
  ∀ {A : Around} {g : FH} {s : Shared} {R : Result → Shared → Prop} {t d : Addr} {ns : List Int} {m n : Int} {tn td : Tok}, Room r A → Frz hb g s → (∃ o, s.heap.get? t = some o ∧ IsI ns o) → g t = none →
    (∃ o, s.heap.get? d = some o ∧ IsSt prog w m o) → g d = none → t ≠ d → ns.length ≤ 1000 → 0 ≤ n → n ≤ 12 →
    (∀ s' a g' xs l, Ext [t, d] s s' → Grown g s g' s' → LG g' a xs → NodesV g' xs l → WF m l 0 0 → (flatL l).length ≤ n.toNat * K → depL l ≤ D → (∃ ns', ns'.length ≤ ns.length ∧ ∃ o, s'.heap.get? t = some o ∧ IsI ns' o) →
      (∃ o, s'.heap.get? d = some o ∧ IsSt prog w m o) → R (.ok (.ret (.ref a))) s') →
    codeAny (model prog w) A (.call (.ref 276) ⟨[.ref t, .ref d, .int n tn, .int deep td], []⟩) R s

noncomputable def ItemsSpecU (prog : Program) (w : World) (hb : Heap) (r K D : Nat) (deep : Int) : Prop :=
  ∀ {A : Around} {g : FH} {s : Shared} {R : Result → Shared → Prop} {t d : Addr} {ns : List Int} {m n : Int} {tn td : Tok}, Room r A → Frz hb g s → (∃ o, s.heap.get? t = some o ∧ IsI ns o) → g t = none →
    (∃ o, s.heap.get? d = some o ∧ IsSt prog w m o) → g d = none → t ≠ d → ns.length ≤ 1000 → 0 ≤ n → n ≤ 12 →
    (∀ s' a g' xs l, Ext [t, d] s s' → Grown g s g' s' → s.heap.get? a = none → (∃ o, s'.heap.get? a = some o ∧ IsL xs o) → g' a = none → NodesV g' xs l → WF m l 0 0 → (flatL l).length ≤ n.toNat * K → depL l ≤ D → (∃ ns', ns'.length ≤ ns.length ∧ ∃ o, s'.heap.get? t = some o ∧ IsI ns' o) →
      (∃ o, s'.heap.get? d = some o ∧ IsSt prog w m o) → R (.ok (.ret (.ref a))) s') →
    codeAny (model prog w) A (.call (.ref 276) ⟨[.ref t, .ref d, .int n tn, .int deep td], []⟩) R s

theorem Grown.frz {g g' : FH} {s s' : Shared} (y : Grown g s g' s') {a : Addr} {o : Obj} (hn : s.heap.get? a = none) (e : s'.heap.get? a = some o) (hg : g' a = none) : Grown g s (g'.put a o) s' ∧ GLe g' (g'.put a o) := by
  refine ⟨⟨fun b o' h => ?_, fun b o' h => FH.put_le hg b o' (y.ggr b o' h), fun b o' h => ?_⟩, FH.put_le hg⟩
  · by_cases q : b = a
    · subst q; rw [FH.put_self] at h; cases h; exact e
    · simp only [FH.put, if_neg q] at h; exact y.gin _ _ h
  · by_cases q : b = a
    · subst q; exact .inr hn
    · simp only [FH.put, if_neg q] at h; exact y.gnew _ _ h
theorem ItemsSpecU.frz {r K D : Nat} {deep : Int} (h : ItemsSpecU prog w hb r K D deep) : ItemsSpec prog w hb r K D deep := by
  intro A g s R t d ns m n tn td room hz ht hgt hd hgd hne hlen hn0 hn12 k
  refine h room hz ht hgt hd hgd hne hlen hn0 hn12 fun s' a g' xs l x y hn ho hg hv hw hf hdp ht' hd' => ?_
  obtain ⟨o, e, i⟩ := ho
  obtain ⟨y', le⟩ := y.frz hn e hg
  exact k s' a _ xs l x y' ⟨o, FH.put_self, i⟩ (hv.mono le) hw hf hdp ht' hd'
noncomputable def dl (way : Int) : Int := if way = 1 ∨ way = 4 then 1 else if way = 2 ∨ way = 5 ∨ way = 6 then -1 else 0
theorem dl_at {way : Int} (h1 : 1 ≤ way) (h8 : way ≤ 8) (t0 t1 t2 t3 t4 t5 t6 t7 t8 : Tok) :
    ∃ tk, [Value.int 0 t0, .int 1 t1, .int (-1) t2, .int 0 t3, .int 1 t4, .int (-1) t5, .int (-1) t6, .int 0 t7, .int 0 t8][way.toNat]? = some (.int (dl way) tk) := by
  have : way = 1 ∨ way = 2 ∨ way = 3 ∨ way = 4 ∨ way = 5 ∨ way = 6 ∨ way = 7 ∨ way = 8 := by lia
  rcases this with rfl | rfl | rfl | rfl | rfl | rfl | rfl | rfl <;> exact ⟨_, rfl⟩

theorem dl_cases (way h : Int) (h0 : 0 ≤ h) (h1 : way = 2 ∨ way = 5 ∨ way = 6 → 1 ≤ h) : 0 ≤ h + dl way ∧ h + dl way ≤ h + 1 := by
  unfold dl; split
  · lia
  · split <;> lia
theorem wf_local {m way h deep loc : Int} {l : List Node} (hok : WayOk way h deep) (h4 : way < 4) (h0 : 0 ≤ h) (l0 : 0 ≤ loc) (l1 : loc < m) (hwf : WF m l 0 h.toNat) : WF m (l ++ [.leaf [31 + way, loc]]) 0 (h + dl way).toNat := by
  have h1 := hok.lo
  have h2 := hok.set
  have : way = 1 ∨ way = 2 ∨ way = 3 := by lia
  rcases this with rfl | rfl | rfl
  · have e : (h + dl 1).toNat = h.toNat + 1 := by simp [dl]; exact tnp h0
    rw [e]; exact hwf.append (.get l0 l1 .nil)
  · have hp := h2 (.inl rfl)
    have e : h.toNat = (h + dl 2).toNat + 1 := by simp [dl]; exact tn1 hp
    rw [e] at hwf; exact hwf.append (.set l0 l1 .nil)
  · have hp := h2 (.inr rfl)
    have e : (h + dl 3).toNat = (h.toNat - 1) + 1 := by simp [dl]; exact tns hp
    have e' := tns hp
    rw [e]; rw [e'] at hwf; exact hwf.append (.tee l0 l1 .nil)
theorem wf_const {m h c : Int} {l : List Node} (h0 : 0 ≤ h) (hwf : WF m l 0 h.toNat) : WF m (l ++ [.leaf [65, c]]) 0 (h + dl 4).toNat := by
  have e : (h + dl 4).toNat = h.toNat + 1 := by simp [dl]; exact tnp h0
  rw [e]; exact hwf.append (.const .nil)
theorem wf_add {m h deep : Int} {l : List Node} (hok : WayOk 5 h deep) (hwf : WF m l 0 h.toNat) : WF m (l ++ [.leaf [106]]) 0 (h + dl 5).toNat := by
  have hp := hok.add rfl
  have e : (h + dl 5).toNat = (h.toNat - 2) + 1 := by simp [dl]; exact tn2 hp
  have e' := tn3 hp
  rw [e]; rw [e'] at hwf; exact hwf.append (.add .nil)
theorem wf_call {m h deep : Int} {l : List Node} (hok : WayOk 6 h deep) (hwf : WF m l 0 h.toNat) : WF m (l ++ [.leaf [16, 0]]) 0 (h + dl 6).toNat := by
  have hp := hok.call rfl
  have e : h.toNat = (h + dl 6).toNat + 1 := by simp [dl]; exact tn1 hp
  rw [e] at hwf; exact hwf.append (.call .nil)
theorem wf_block {m h c : Int} {l b : List Node} (hc : c = 2 ∨ c = 3) (hb : WF m b 0 0) (hwf : WF m l 0 h.toNat) : WF m (l ++ [.one [c, -64] b]) 0 (h + dl 7).toNat := by
  have e : (h + dl 7).toNat = h.toNat := by simp [dl]
  rw [e]; exact hwf.append (.block hc hb .nil)
theorem wf_if1 {m h i : Int} {l b : List Node} (i0 : 0 ≤ i) (i1 : i < m) (hb : WF m b 0 0) (hwf : WF m l 0 h.toNat) : WF m ((l ++ [.leaf [32, i]]) ++ [.one [4, -64] b]) 0 (h + dl 8).toNat := by
  have e : (h + dl 8).toNat = h.toNat := by simp [dl]
  rw [e]; exact (hwf.append (.get i0 i1 .nil)).append (.if1 hb .nil)
theorem wf_if2 {m h i : Int} {l b c : List Node} (i0 : 0 ≤ i) (i1 : i < m) (hb : WF m b 0 0) (hc : WF m c 0 0) (hwf : WF m l 0 h.toNat) : WF m ((l ++ [.leaf [32, i]]) ++ [.two [4, -64] b c]) 0 (h + dl 8).toNat := by
  have e : (h + dl 8).toNat = h.toNat := by simp [dl]
  rw [e]; exact (hwf.append (.get i0 i1 .nil)).append (.if2 hb hc .nil)
noncomputable def ItemsJ (prog : Program) (w : World) (t d ia : Addr) (ns0 : List Int) (m n deep : Int) (tn td : Tok) (K D : Nat) (i : Nat) (vs : List (Option Value)) (led : Led) (g : FH) : Prop :=
  ∃ ns' h th xs l x7 x8 x9 x10 x11, vs = [some (.ref t), some (.ref d), some (.int n tn), some (.int deep td), some (.ref ia), some (.int h th), x7, x8, x9, x10, x11] ∧
    led = [(ia, IsL xs), (t, IsI ns'), (d, IsSt prog w m)] ∧ 0 ≤ h ∧ h ≤ i ∧ ns'.length ≤ ns0.length ∧ NodesV g xs l ∧ WF m l 0 h.toNat ∧ (flatL l).length ≤ i * (K - 1) ∧ depL l ≤ D

theorem items_call {s0 s : Shared} {mods : List Addr} {g0 g : FH} {env : Env} {ns gs : List Str} {vs : List (Option Value)} {A : Around} {E : Value → Shared → Prop} {Q : Value → Shared → Prop} {r K' D' : Nat} {deep m : Int} {td : Tok} {t d : Addr} {ns1 : List Int} (led : List Int → Led)
    {p1 p2 p3 p4 p5 p6 p7 p8 p9 p10 p11 p12 : Pos} {k1 k2 : Nat} (W : Wld hb) (rec : ItemsSpec prog w hb r K' D' (deep + 1)) (room : Room (r + 5) A) (σ : S hb s0 mods g0 env ns vs (led ns1) g s) (hG : EnvG env gs) (hg1 : n_law_items ∈ gs) (hg2 : n_law_next ∈ gs)
    (a1 : At ns vs n_tape (.ref t)) (a2 : At ns vs n_state (.ref d)) (a3 : At ns vs n_deep (.int deep td)) (hne : t ≠ d) (hlen : ns1.length ≤ 1000)
    (u1 : ∀ x y, Upd (led x) t (IsI x) (IsI y) (led y)) (u2 : ∀ x, Upd (led x) d (IsSt prog w m) (IsSt prog w m) (led x)) (had : ∀ x y, (led x).map (·.1) = (led y).map (·.1))
    (h : ∀ b xs l ns2 g' s', GLe g g' → S hb s0 mods g0 env ns vs (led ns2) g' s' → LG g' b xs → NodesV g' xs l → WF m l 0 0 → (flatL l).length ≤ 4 * K' → depL l ≤ D' → ns2.length ≤ ns1.length → Q (.ref b) s') :
    wpAny (model prog w) A (eval (.Call (.Name n_law_items p1) [.Name n_tape p2, .Name n_state p3, .BinOp (.Call (.Name n_law_next p4) [.Name n_tape p5] [] p6) .Mod (.Constant (.int 5) k1 p7) p8, .BinOp (.Name n_deep p9) .Add (.Constant (.int 1) k2 p10) p11] [] p12) env) Q E s := by
  refine e_call σ hG W.gv_witems W.fn_witems hg1 ?_
  refine sp_cons ?_
  refine w_load σ a1 ?_
  refine sp_cons ?_
  refine w_load σ a2 ?_
  refine sp_cons ?_
  refine e_bin ?_
  refine e_call σ hG W.gv_wnext W.fn_wnext hg2 ?_
  refine sp_cons ?_
  refine w_load σ a1 ?_
  refine sp_nil ?_
  have hm1 : ∀ x, Mem (led x) t (IsI x) := fun x => (u1 x x).toMem
  have hm2 : ∀ x, Mem (led x) d (IsSt prog w m) := fun x => (u2 x).toMem
  refine ⟨σ.hbs, w_call (next_c W room.le σ.fz (σ.get (hm1 _)) (σ.gl (hm1 _)) hlen fun s₂ tn x ho => rv ?_)⟩
  replace σ := σ.mod (u1 _ ns1.tail) x ho.choose_spec.1 ho.choose_spec.2
  walk_at "W"
  refine w_load σ a3 ?_
  walk_at "W"
  have hw0 : 0 ≤ (ns1.headD 0).fmod 5 := Int.fmod_nonneg_of_pos _ (by decide)
  have hw9 : (ns1.headD 0).fmod 5 < 5 := Int.fmod_lt_of_pos _ (by decide)
  refine ⟨σ.hbs, w_call (rec (Room.le room) σ.fz (σ.get (hm1 _)) (σ.gl (hm1 _)) (σ.get (hm2 _)) (σ.gl (hm2 _)) hne (tl_le hlen) hw0 (Int.le_of_lt (Int.lt_of_lt_of_le hw9 (by decide))) fun s₃ b g₃ xs l x y hlg hv hwf hfl hdp hns2 hst => rv ?_)⟩
  obtain ⟨ns2, hle2, hi2⟩ := hns2
  refine h b xs l ns2 g₃ s₃ y.ggr (σ.back (σ.mod2 (u1 _ ns2) (u2 _) x hi2 hst) (had _ _) y) hlg hv hwf (Nat.le_trans hfl (Nat.mul_le_mul_right _ (f4 hw9))) hdp (Nat.le_trans hle2 (tl_le (Nat.le_refl _)))

theorem items_step (W : Wld hb) {r K K' D D' : Nat} {deep : Int} (hd0 : 0 ≤ deep) (hd2 : deep ≤ 2) (hK : 2 ≤ K) (hK2 : K ≤ 200) (hrec : deep < 2 → 5 + 8 * K' ≤ K ∧ D' + 1 ≤ D ∧ ItemsSpec prog w hb r K' D' (deep + 1)) : ItemsSpecU prog w hb (r + 6) K D deep := by
  intro A g s R t d ns m n tn td room hz ht hgt hd hgd hne hlen hn0 hn12 k
  refine start (led := [(t, IsI ns), (d, IsSt prog w m)]) [t, d] [(n_tape, .ref t), (n_state, .ref d), (n_many, .int n tn), (n_deep, .int deep td)] [n_items, n_height, n_turn, n_way, n_rest, n_first, n_second] [n_law_next, n_law_pick, n_law_items, n_range]
    (ns := [n_tape, n_state, n_many, n_deep, n_items, n_height, n_turn, n_way, n_rest, n_first, n_second]) (vs := [some (.ref t), some (.ref d), some (.int n tn), some (.int deep td), none, none, none, none, none, none, none]) W.fn_witems (room_depth room) hz (BindsTo.of_eq rfl) rfl rfl (by decide +kernel) (by
      intro p hp
      rcases List.mem_cons.mp hp with rfl | hp
      · exact ht
      · rw [List.mem_singleton.mp hp]; exact hd) (by simp [hne]) (by simp [hgt, hgd]) ?_
  intro env E s₁ hG σ
  have R1 : Room (r + 5) (A.deeper env) := room.deeper
  have hA : (A.deeper env).handled = none := R1.1
  (show wpAny _ _ (execs (_ :: _) _) _ _ _; dsimp only [qn_BLOCK, qn_DROP, qn_ELSE, qn_END, qn_FUNCTION, qn_Func, qn_IF, qn_LOCAL_GET, qn_LOCAL_SET, qn_LOCAL_TEE, qn_LOOP, qn_Module, qn_Piece, qn__name__, qn_law_behind, qn_law_flat, qn_law_is_kept_right, qn_law_items, qn_law_join, qn_law_joined, qn_law_kept, qn_law_next, qn_law_pick, qn_law_run, qn_law_two, qn_wall, qn_ahead, qn_at, qn_body, qn_body_of, qn_codes, qn_deep, qn_due, qn_first, qn_found, qn_func, qn_given, qn_height, qn_here, qn_index, qn_inner, qn_int, qn_is_else, qn_items, qn_join_last, qn_join_locals, qn_k, qn_kept, qn_kind, qn_len, qn_list, qn_local, qn_locals_now, qn_many, qn_module, qn_name, qn_number, qn_one, qn_opened, qn_other, qn_out, qn_own, qn_params, qn_part, qn_parts_of, qn_piece, qn_pieces, qn_pieces_of, qn_place, qn_places, qn_plain, qn_property, qn_put_pieces, qn_range, qn_read, qn_rest, qn_script, qn_second, qn_self, qn_sign, qn_sort, qn_stack, qn_state, qn_sum, qn_tape, qn_thing, qn_things, qn_told, qn_tuple, qn_turn, qn_two, qn_values, qn_way, qn_without_locals, qn_word])
  (refine' xs_swap2 σ ?k1 ?k2 ?k3 ?k4 ?k5 ?k6 ?k7 ?k8 ?_ ?k9; (case k1 => walk_at "in"); (case k2 => walk_at "in"); (case k3 => decide); (case k4 => rfl); (case k5 => intro _ _ q; cases q); (case k6 => intro _ _ q; cases q); (case k7 => decide +kernel); (case k8 => decide +kernel); (case k9 => with_unfolding_all rfl))
  walk_at "W"
  
  have hn := tn12 hn12
  rcases (⟨la, rfl⟩ : ∃ x, x = la) with ⟨ia, rfl⟩
  refine xs_for ?_
  refine e_type1 σ hG W.bv_range (by walk_at "in") ?_
  walk_at "W"
  refine for_range σ hA (ItemsJ prog w t d ia ns m n deep tn td K D) (by lia) hn0 ⟨ns, 0, _, _, _, _, _, _, _, _, rfl, rfl, Int.le_refl _, Int.le_refl _, Nat.le_refl _, .nil, .nil, Nat.zero_le _, Nat.zero_le _⟩ ?_ ?_
  · clear σ
    rintro i tk s₂ _ _ g₂ it E₂ TT hKN hT hi ⟨ns', h, th, xs, l, x7, x8, x9, x10, x11, rfl, rfl, h0, hh, hle, hv, hwf, hfl, hdp⟩ σ
    walk_at "W"
    refine xs_tup2 ?_
    refine e_call σ hG W.gv_wpick W.fn_wpick (by walk_at "in") ?_
    walk_at "W"
    refine ⟨σ.hbs, w_call (pick_c W R1.le σ.fz (σ.get (.tail (.tail .head))) (σ.gl (.tail (.tail .head))) (σ.get (.tail (.tail (.tail .head)))) (σ.gl (.tail (.tail (.tail .head)))) hne (Nat.le_trans hle hlen) h0 hd2 fun s₃ a₃ g₃ way rest tw tr x y hp ho ho' hok => rv ?_)⟩
    replace σ := σ.back (σ.mod2 (.tail (.tail .head)) (.tail (.tail (.tail .head))) x ho ho') rfl y
    have le3 : GLe g₂ g₃ := y.ggr
    refine as_tuple2 σ hA (σ.HT hp) rfl ?_
    clear σ; intro s₄ σ
    walk_at "W"
    have hiK : i * (K - 1) ≤ 12 * 200 := Nat.mul_le_mul (Nat.le_trans (Nat.le_of_lt hi) hn) (Nat.le_trans (Nat.sub_le _ _) hK2)
    have hl := hv.length
    have hsl : sizeLine = 16777216 := rfl
    have hxl : l.length ≤ (flatL l).length := flatL_length l
    have hx2 := Nat.le_trans hxl (Nat.le_trans hfl hiK)
    have hxs : xs.length ≤ sizeLine := sz (Nat.le_trans (Nat.le_of_eq hl) hx2) rfl
    replace hv := hv.mono le3
    refine xs_ifk (fun s' => ∃ g' xs' l' ns'' x10 x11, S hb s [t, d] g env [n_tape, n_state, n_many, n_deep, n_items, n_height, n_turn, n_way, n_rest, n_first, n_second]
        [some (.ref t), some (.ref d), some (.int n tn), some (.int deep td), some (.ref ia), some (.int h th), some (.int i tk), some (.int way tw), some (.int rest tr), x10, x11]
        [(it, IsRI n.toNat (i + 1)), (ia, IsL xs'), (t, IsI ns''), (d, IsSt prog w m)] g' s' ∧ NodesV g' xs' l' ∧ WF m l' 0 (h + dl way).toNat ∧ (0 ≤ h + dl way ∧ h + dl way ≤ h + 1) ∧ (flatL l').length ≤ i * (K - 1) + (K - 1) ∧ depL l' ≤ D ∧ ns''.length ≤ ns.length) ?_ ?_
    · intro TP hP
      have fin := fun g' xs' l' ns'' x10 x11 s' h1 h2 h3 h4 h5 h6 h7 => hP s' ⟨g', xs', l', ns'', x10, x11, h1, h2, h3, h4, h5, h6, h7⟩
      have hbd := dl_cases way h h0 (fun q => q.elim (fun a => hok.set (.inl a)) fun q => q.elim (fun a => Int.le_trans (by decide) (hok.add a)) hok.call)
      walk_at "W"
      refine sp_d (fun h4 => ?_) (fun h4 => ?_)
      · walk_at "W"
        refine m_append ?_
        walk_at "W"
        refine k_app1 (σ.HL (.tail .head)) ?_
        walk_at "W"
        refine ld_local σ (.tail (.tail (.tail .head))) ?_
        clear σ; intro loc tl _ hl0 hl1 σ
        walk_at "W"
        refine k_app2 σ (.tail .head) hxs ?_
        clear σ; intro s₅ σ
        walk_at "W"
        refine ⟨rfl, fin _ _ _ _ _ _ _ σ ((hv.mono ?_).snoc (node_leaf (by assumption) hgg htg (by repeat constructor))) (wf_local hok h4 h0 hl0 hl1 hwf) hbd ?_ (by simp [depL_append, depL, depN]; exact hdp) (tl_le hle)⟩
        · walk_at "gle"
        · simp [flatL_append, flatL, flatN]; exact k1 hK hfl
      · refine xs_if ?_
        walk_at "W"
        refine sp_d (fun h4 => ?_) (fun h4 => ?_)
        · subst h4
          walk_at "W"
          refine m_append ?_
          walk_at "W"
          refine k_app1 (σ.HL (.tail .head)) ?_
          walk_at "W"
          refine k_app2 σ (.tail .head) hxs ?_
          clear σ; intro s₅ σ
          walk_at "W"
          refine ⟨rfl, fin _ _ _ _ _ _ _ σ ((hv.mono ?_).snoc (node_leaf (by assumption) hgg htg (by repeat constructor))) (wf_const h0 hwf) hbd ?_ (by simp [depL_append, depL, depN]; exact hdp) (tl_le hle)⟩
          · walk_at "gle"
          · simp [flatL_append, flatL, flatN]; exact k1 hK hfl
        · refine xs_if ?_
          walk_at "W"
          refine sp_d (fun h5 => ?_) (fun h5 => ?_)
          · subst h5
            walk_at "W"
            refine m_append ?_
            walk_at "W"
            refine k_app1 (σ.HL (.tail .head)) ?_
            walk_at "W"
            refine k_app2 σ (.tail .head) hxs ?_
            clear σ; intro s₅ σ
            walk_at "W"
            refine ⟨rfl, fin _ _ _ _ _ _ _ σ ((hv.mono ?_).snoc (node_leaf (by assumption) hgg htg (by repeat constructor))) (wf_add hok hwf) hbd ?_ (by simp [depL_append, depL, depN]; exact hdp) (tl_le hle)⟩
            · walk_at "gle"
            · simp [flatL_append, flatL, flatN]; exact k1 hK hfl
          · refine xs_if ?_
            walk_at "W"
            refine sp_d (fun h6 => ?_) (fun h6 => ?_)
            · subst h6
              walk_at "W"
              refine m_append ?_
              walk_at "W"
              refine k_app1 (σ.HL (.tail .head)) ?_
              walk_at "W"
              refine k_app2 σ (.tail .head) hxs ?_
              clear σ; intro s₅ σ
              walk_at "W"
              refine ⟨rfl, fin _ _ _ _ _ _ _ σ ((hv.mono ?_).snoc (node_leaf (by assumption) hgg htg (by repeat constructor))) (wf_call hok hwf) hbd ?_ (by simp [depL_append, depL, depN]; exact hdp) (tl_le hle)⟩
              · walk_at "gle"
              · simp [flatL_append, flatL, flatN]; exact k1 hK hfl
            · obtain ⟨hKK, hDD, rec⟩ := hrec (hok.deep (by have := hok.lo; lia))
              refine xs_if ?_
              walk_at "W"
              refine sp_d (fun h7 => ?_) (fun h7 => ?_)
              · subst h7
                walk_at "W"
                refine m_append ?_
                walk_at "W"
                refine k_app1 (σ.HL (.tail .head)) ?_
                walk_at "W"
                refine items_call (fun x => [(it, IsRI n.toNat (i + 1)), (ia, IsL xs), (t, IsI x), (d, IsSt prog w m)]) W rec R1 σ hG (by walk_at "in") (by walk_at "in") (by walk_at "at") (by walk_at "at") (by walk_at "at") hne (tl_le (Nat.le_trans hle hlen)) (fun _ _ => .tail (.tail .head)) (fun _ => .tail (.tail (.tail .head))) (fun _ _ => rfl) ?_
                clear σ; intro b ys l₂ ns2 g₅ s₅ le5 σ hlg hv2 hwf2 hfl2 hdp2 hle2
                walk_at "W"
                refine k_app2 σ (.tail .head) hxs ?_
                clear σ; intro s₅ σ
                walk_at "W"
                have hr0 : 0 ≤ rest.fmod 2 := Int.fmod_nonneg_of_pos _ (by decide)
                have hr1 : rest.fmod 2 < 2 := Int.fmod_lt_of_pos _ (by decide)
                refine ⟨rfl, fin _ _ _ _ _ _ _ σ ((hv.mono ?_).snoc (.one htg ⟨_, TG.mono (by assumption) (le5.trans hgg), by repeat constructor⟩ (hlg.mono hgg) (hv2.mono hgg))) (wf_block (by lia) hwf2 hwf) hbd ?_ (by simp [depL_append, depL, depN]; exact Nat.max_le.2 ⟨hdp, Nat.le_trans (Nat.succ_le_succ hdp2) hDD⟩) (Nat.le_trans hle2 (tl_le hle))⟩
                · walk_at "gle"
                · simp [flatL_append, flatL, flatN]; exact k4 hKK hfl hfl2
              · walk_at "W"
                refine m_append ?_
                walk_at "W"
                refine k_app1 (σ.HL (.tail .head)) ?_
                walk_at "W"
                refine ld_local σ (.tail (.tail (.tail .head))) ?_
                clear σ; intro loc tl _ hl0 hl1' σ
                walk_at "W"
                refine k_app2 σ (.tail .head) hxs ?_
                clear σ; intro s₅ σ
                have hn1 : NodeV gg (.ref ta) (.leaf [32, loc]) := node_leaf (by assumption) hgg htg (by repeat constructor)
                rcases (⟨ta, rfl⟩ : ∃ x, x = ta) with ⟨ta₁, rfl⟩
                have hv1 := (hv.mono (g' := gg) (by walk_at "gle")).snoc hn1
                walk_at "W"
                refine items_call (fun x => [(it, IsRI n.toNat (i + 1)), (ia, IsL (xs ++ [.ref ta₁])), (t, IsI x), (d, IsSt prog w m)]) W rec R1 σ hG (by walk_at "in") (by walk_at "in") (by walk_at "at") (by walk_at "at") (by walk_at "at") hne (tl_le (Nat.le_trans hle hlen)) (fun _ _ => .tail (.tail .head)) (fun _ => .tail (.tail (.tail .head))) (fun _ _ => rfl) ?_
                clear σ; intro b ys l₂ ns2 g₅ s₅ le5 σ hlg hv2 hwf2 hfl2 hdp2 hle2
                walk_at "W"
                have hw8 : way = 8 := by have := hok.hi; have := hok.lo; lia
                subst hw8
                have hl1 : (xs ++ [Value.ref ta₁]).length = l.length + 1 := by simp [hl]
                refine sp_d (fun he => ?_) (fun he => ?_)
                · refine items_call (fun x => [(it, IsRI n.toNat (i + 1)), (ia, IsL (xs ++ [.ref ta₁])), (t, IsI x), (d, IsSt prog w m)]) W rec R1 σ hG (by walk_at "in") (by walk_at "in") (by walk_at "at") (by walk_at "at") (by walk_at "at") hne (Nat.le_trans hle2 (tl_le (Nat.le_trans hle hlen))) (fun _ _ => .tail (.tail .head)) (fun _ => .tail (.tail (.tail .head))) (fun _ _ => rfl) ?_
                  clear σ; intro c zs l₃ ns3 g₆ s₆ le6 σ hlg3 hv3 hwf3 hfl3 hdp3 hle3
                  walk_at "W"
                  refine m_append ?_
                  walk_at "W"
                  refine k_app1 (σ.HL (.tail .head)) ?_
                  walk_at "W"
                  refine k_app2 σ (.tail .head) (sz (Nat.le_trans (Nat.le_of_eq hl1) (Nat.succ_le_succ hx2)) rfl) ?_
                  clear σ; intro s₅ σ
                  walk_at "W"
                  have lh : GLe g₆ gg := by walk_at "gle"
                  refine ⟨rfl, fin _ _ _ _ _ _ _ σ ((hv1.mono (le5.trans (le6.trans lh))).snoc (.two htg ⟨_, TG.mono (by assumption) hgg, by repeat constructor⟩ (hlg.mono (le6.trans lh)) (hv2.mono (le6.trans lh)) (hlg3.mono lh) (hv3.mono lh))) (wf_if2 hl0 hl1' hwf2 hwf3 hwf) hbd ?_ (by simp [depL_append, depL, depN]; exact Nat.max_le.2 ⟨hdp, Nat.le_trans (Nat.succ_le_succ (Nat.max_le.2 ⟨hdp2, hdp3⟩)) hDD⟩) (Nat.le_trans hle3 (Nat.le_trans hle2 (tl_le hle)))⟩
                  simp [flatL_append, flatL, flatN]; exact k2 hKK hfl hfl2 hfl3
                · walk_at "W"
                  refine m_append ?_
                  walk_at "W"
                  refine k_app1 (σ.HL (.tail .head)) ?_
                  walk_at "W"
                  refine k_app2 σ (.tail .head) (sz (Nat.le_trans (Nat.le_of_eq hl1) (Nat.succ_le_succ hx2)) rfl) ?_
                  clear σ; intro s₅ σ
                  walk_at "W"
                  have lh : GLe g₅ gg := by walk_at "gle"
                  refine ⟨rfl, fin _ _ _ _ _ _ _ σ ((hv1.mono (le5.trans lh)).snoc (.one htg ⟨_, TG.mono (by assumption) hgg, by repeat constructor⟩ (hlg.mono lh) (hv2.mono lh))) (wf_if1 hl0 hl1' hwf2 hwf) hbd ?_ (by simp [depL_append, depL, depN]; exact Nat.max_le.2 ⟨hdp, Nat.le_trans (Nat.succ_le_succ hdp2) hDD⟩) (Nat.le_trans hle2 (tl_le hle))⟩
                  simp [flatL_append, flatL, flatN]; exact k3 hKK hfl hfl2
    · clear σ
      rintro s₅ ⟨g₅, xs', l', ns'', y10, y11, σ, hv', hwf', hbd, hfl', hdp', hle'⟩
      walk_at "W"
      have hlo := hok.lo
      have hhi := hok.hi
      refine ix_list (σ.HL .head) (by lia) (by lia) (dl_at hok.lo hok.hi _ _ _ _ _ _ _ _ _).choose_spec ?_
      walk_at "W"
      refine hKN _ _ _ _ ⟨ns'', h + dl way, _, xs', l', _, _, _, _, _, rfl, rfl, hbd.1, by push_cast; lia, hle', hv', hwf', ?_, hdp'⟩ (σ.drop (List.sublist_cons_self ..))
      rw [Nat.succ_mul]; exact hfl'
  · clear σ
    rintro s₂ _ _ g₂ ⟨ns', h, th, xs, l, x7, x8, x9, x10, x11, rfl, rfl, h0, hh, hle, hv, hwf, hfl, hdp⟩ σ
    walk_at "W"
    have hl := hv.length
    have hsl : sizeLine = 16777216 := rfl
    have hxl : l.length ≤ (flatL l).length := flatL_length l
    have hb1 : n.toNat * (K - 1) + n.toNat = n.toNat * K := by
      rw [← Nat.mul_succ]; congr 1; exact Nat.sub_add_cancel (Nat.le_of_succ_le hK)
    refine mul_one σ (σ.HL .head) h0 (Int.le_trans hh (Int.le_trans (Int.ofNat_le.2 hn) (by decide))) ?_
    clear σ; intro c s₄ σ _
    refine add_lists σ (σ.HL (.tail (.tail .head))) (σ.HL .head) (by simp; exact sz (Nat.add_le_add (Nat.le_trans (Nat.le_of_eq hl) (Nat.le_trans hxl (Nat.le_trans hfl (Nat.mul_le_mul hn (Nat.le_trans (Nat.sub_le _ _) hK2))))) (Nat.le_trans (Int.toNat_le.2 hh) hn)) rfl) ?_
    clear σ; intro e s₅ σ he
    have hop : NodeV gg (.ref ta) (.leaf [26]) := .leaf htg ⟨_, ‹TG _ _ [Value.int 26 _]›.mono hgg, .cons _ _ .nil⟩
    refine k _ _ _ _ _ σ.ext σ.grownOf he (σ.get .head) (σ.gl .head) (NodesV.append (hv.mono ?_) (NodesV.rep hop h.toNat)) (hwf.append (.drops _)) ?_ (by rw [depL_append, depL_drops]; exact Nat.max_le.2 ⟨hdp, Nat.zero_le _⟩) ⟨ns', hle, σ.get (.tail (.tail (.tail (.tail .head))))⟩ (σ.get (.tail (.tail (.tail (.tail (.tail .head))))))
    · walk_at "gle"
    · rw [flatL_append, flatL_drops]; simp; exact Nat.le_trans (Nat.add_le_add hfl (Int.toNat_le.2 hh)) (Nat.le_of_eq hb1)
theorem items2 (W : Wld hb) : ItemsSpec prog w hb 12 2 0 (0 + 1 + 1) := ItemsSpecU.frz (items_step W (K' := 0) (D' := 0) (r := 6) (by decide) (by decide) (by decide) (by decide) fun h => absurd h (by decide))
theorem items1 (W : Wld hb) : ItemsSpec prog w hb 18 21 1 (0 + 1) := ItemsSpecU.frz (items_step W (K' := 2) (D' := 0) (r := 12) (by decide) (by decide) (by decide) (by decide) fun _ => ⟨by decide, by decide, items2 W⟩)
theorem items0 (W : Wld hb) : ItemsSpecU prog w hb 24 173 2 0 :=
  items_step W (K' := 21) (D' := 1) (r := 18) (by decide) (by decide) (by decide) (by decide) fun _ => ⟨by decide, by decide, items1 W⟩
end
section
variable {prog : Program} {w : World} {hb : Heap}

theorem flat_c (W : Wld hb) : ∀ (k : Nat) {A : Around} {g : FH} {s : Shared} {R : Result → Shared → Prop} {a : Addr} {xs : List Value} {l : List Node}, Room (k + 3) A → Frz hb g s → LG g a xs → NodesV g xs l → depL l ≤ k → (flatL l).length ≤ 5000 →
    (∀ s' c g' ys, Ext [] s s' → Grown g s g' s' → LG g' c ys → OpsV g' ys (flatL l) → R (.ok (.ret (.ref c))) s') →
    codeAny (model prog w) A (.call (.ref 283) ⟨[.ref a], []⟩) R s := by
  intro k
  induction k using Nat.strongRecOn with
  | ind k ih =>
  intro A g s R a xs l room hz ha hv hdp hlen cont
  refine start (led := []) [] [(n_items, .ref a)] [n_body, n_plain, n_first, n_second] [n_law_flat]
    (ns := [n_items, n_body, n_plain, n_first, n_second]) (vs := [some (.ref a), none, none, none, none]) W.fn_wflat (room_depth room) hz (BindsTo.of_eq rfl) rfl rfl (by decide +kernel) (by simp) (by simp) (by simp) ?_
  intro env E s₁ hG σ
  have R1 : Room (k + 2) (A.deeper env) := room.deeper
  have hA : (A.deeper env).handled = none := R1.1
  (show wpAny _ _ (execs (_ :: _) _) _ _ _; dsimp only [qn_BLOCK, qn_DROP, qn_ELSE, qn_END, qn_FUNCTION, qn_Func, qn_IF, qn_LOCAL_GET, qn_LOCAL_SET, qn_LOCAL_TEE, qn_LOOP, qn_Module, qn_Piece, qn__name__, qn_law_behind, qn_law_flat, qn_law_is_kept_right, qn_law_items, qn_law_join, qn_law_joined, qn_law_kept, qn_law_next, qn_law_pick, qn_law_run, qn_law_two, qn_wall, qn_ahead, qn_at, qn_body, qn_body_of, qn_codes, qn_deep, qn_due, qn_first, qn_found, qn_func, qn_given, qn_height, qn_here, qn_index, qn_inner, qn_int, qn_is_else, qn_items, qn_join_last, qn_join_locals, qn_k, qn_kept, qn_kind, qn_len, qn_list, qn_local, qn_locals_now, qn_many, qn_module, qn_name, qn_number, qn_one, qn_opened, qn_other, qn_out, qn_own, qn_params, qn_part, qn_parts_of, qn_piece, qn_pieces, qn_pieces_of, qn_place, qn_places, qn_plain, qn_property, qn_put_pieces, qn_range, qn_read, qn_rest, qn_script, qn_second, qn_self, qn_sign, qn_sort, qn_stack, qn_state, qn_sum, qn_tape, qn_thing, qn_things, qn_told, qn_tuple, qn_turn, qn_two, qn_values, qn_way, qn_without_locals, qn_word])
  walk_at "W"
  rcases (⟨la, rfl⟩ : ∃ x, x = la) with ⟨ba, rfl⟩
  refine xs_for ?_ (by intro _; with_unfolding_all rfl)
  walk_at "W"
  have hll := hv.length
  refine for_list σ hA a xs (fun i vs' led' g' => ∃ ys x1 x2 x3, vs' = [some (.ref a), some (.ref ba), x1, x2, x3] ∧ led' = [(ba, IsL ys)] ∧ GLe g g' ∧ OpsV g' ys (flatL (l.take i)))
    ?_ ⟨[], _, _, _, rfl, rfl, .refl, .nil⟩ ?_ ?_ (.inr ⟨_, _, _, rfl, hv.refs⟩)
  · rintro i _ _ g' s' ⟨ys, x1, x2, x3, rfl, rfl, le, ho⟩ σ
    exact σ.HLg (ha.mono le)
  · clear σ
    rintro i v s₂ _ _ g₂ it E₂ TT hN hT hx ⟨ys, x1, x2, x3, rfl, rfl, le, ho⟩ σ
    obtain ⟨n, hn, hnv⟩ := hv.get hx
    replace hnv := hnv.mono le
    have hfl := flatN_le hn
    have hdn := depN_le hn
    have hoL := ho.length
    have hT : ys.length ≤ 5000 := Nat.le_trans (Nat.le_of_eq hoL) (Nat.le_trans (Nat.le_add_right _ _) (Nat.le_trans hfl hlen))
    rw [flatL_take_succ hn] at hN
    have fN := fun ys x1 x2 x3 s₃ g'' h1 h2 σ => hN s₃ _ _ g'' ⟨ys, x1, x2, x3, rfl, rfl, h1, h2⟩ σ
    clear hN
    cases hnv with
    | leaf ht hop =>
      refine as_tuple3 σ hA (σ.HT ht) rfl ?_
      clear σ; intro s₃ σ
      walk_at "W"
      refine m_append ?_
      walk_at "W"
      refine k_app1 (σ.HL (.tail .head)) ?_
      walk_at "W"
      refine k_app2 σ (.tail .head) (sz hT rfl) ?_
      clear σ; intro s₅ σ
      have ho1 := ho.snoc hop
      walk_at "W"
      refine xs_if ?_
      walk_at "W"
      exact fN _ _ _ _ _ _ le (by simpa [flatN] using ho1) σ
    | one ht hop hlg hvs =>
      rename_i l'
      refine as_tuple3 σ hA (σ.HT ht) rfl ?_
      clear σ; intro s₃ σ
      walk_at "W"
      refine m_append ?_
      walk_at "W"
      refine k_app1 (σ.HL (.tail .head)) ?_
      walk_at "W"
      refine k_app2 σ (.tail .head) (sz hT rfl) ?_
      clear σ; intro s₅ σ
      have ho1 := ho.snoc hop
      walk_at "W"
      refine xs_if ?_
      walk_at "W"
      refine m_extend ?_
      walk_at "W"
      refine ⟨_, _, rfl, σ.HL (.tail .head), ?_⟩
      refine e_call σ hG W.gv_wflat W.fn_wflat (by walk_at "in") ?_
      walk_at "W"
      have hd1 := hdn
      simp only [depN, flatN, List.length_cons, List.length_append] at hd1 hfl
      refine ⟨σ.hbs, w_call (ih (depL l') (Nat.lt_of_lt_of_le hd1 hdp) (R1.le (Nat.add_le_add_right (Nat.lt_of_lt_of_le hd1 hdp) 2)) σ.fz hlg hvs (Nat.le_refl _) (Nat.le_trans (fa1 hfl) hlen) fun s₆ c g₆ zs x y hlg' hov => rv ?_)⟩
      have le6 : GLe g₂ g₆ := y.ggr
      have hz1 := hov.length
      replace σ := σ.growN x y
      refine ⟨_, _, _, rfl, σ.HL (.tail .head), σ.HLg hlg', by simp; exact fa2 hoL hz1 hfl hlen, fun s₅ x hx => ?_⟩
      replace σ := σ.modL (.tail .head) x hx
      have ho2 := (ho1.mono le6).append hov
      walk_at "W"
      refine m_extend ?_
      walk_at "W"
      refine ⟨_, _, rfl, σ.HL (.tail .head), ?_⟩
      walk_at "W"
      refine ⟨_, _, _, rfl, σ.HL (.tail (.tail .head)), σ.HL .head, by simp; exact fa3 hoL hz1 hfl hlen, fun s₅ x hx => ?_⟩
      replace σ := (σ.modL (.tail (.tail .head)) x hx).drop (List.sublist_cons_self ..)
      walk_at "W"
      refine m_append ?_
      walk_at "W"
      refine k_app1 (σ.HL (.tail .head)) ?_
      walk_at "W"
      refine k_app2 σ (.tail .head) (by simp; exact sz (fa3 hoL hz1 hfl hlen) rfl) ?_
      clear σ; intro s₅ σ
      have ho3 := (ho2.mono hgg).snoc (op := [11]) ⟨_, htg, by repeat constructor⟩
      walk_at "W"
      exact fN _ _ _ _ _ _ (le.trans (le6.trans hgg)) (by simpa [flatN] using ho3) σ
    | two ht hop hlg hvs hlg2 hvs2 =>
      rename_i L1 _ L2
      refine as_tuple3 σ hA (σ.HT ht) rfl ?_
      clear σ; intro s₃ σ
      walk_at "W"
      refine m_append ?_
      walk_at "W"
      refine k_app1 (σ.HL (.tail .head)) ?_
      walk_at "W"
      refine k_app2 σ (.tail .head) (sz hT rfl) ?_
      clear σ; intro s₅ σ
      have ho1 := ho.snoc hop
      walk_at "W"
      refine xs_if ?_
      walk_at "W"
      refine m_extend ?_
      walk_at "W"
      refine ⟨_, _, rfl, σ.HL (.tail .head), ?_⟩
      refine e_call σ hG W.gv_wflat W.fn_wflat (by walk_at "in") ?_
      walk_at "W"
      have hd1 := hdn
      simp only [depN, flatN, List.length_cons, List.length_append] at hd1 hfl
      refine ⟨σ.hbs, w_call (ih (depL L1) (mx_l hd1 hdp) (R1.le (Nat.add_le_add_right (mx_l hd1 hdp) 2)) σ.fz hlg hvs (Nat.le_refl _) (Nat.le_trans (fa1 hfl) hlen) fun s₆ c g₆ zs x y hlg' hov => rv ?_)⟩
      have le6 : GLe g₂ g₆ := y.ggr
      have hz1 := hov.length
      replace σ := σ.growN x y
      refine ⟨_, _, _, rfl, σ.HL (.tail .head), σ.HLg hlg', by simp; exact fa2 hoL hz1 hfl hlen, fun s₅ x hx => ?_⟩
      replace σ := σ.modL (.tail .head) x hx
      have ho2 := (ho1.mono le6).append hov
      walk_at "W"
      refine m_extend ?_
      walk_at "W"
      refine ⟨_, _, rfl, σ.HL (.tail .head), ?_⟩
      walk_at "W"
      refine e_call σ hG W.gv_wflat W.fn_wflat (by walk_at "in") ?_
      walk_at "W"
      refine ⟨σ.hbs, w_call (ih (depL L2) (mx_r hd1 hdp) (R1.le (Nat.add_le_add_right (mx_r hd1 hdp) 2)) σ.fz (hlg2.mono (by walk_at "gle")) (hvs2.mono (by walk_at "gle")) (Nat.le_refl _) (Nat.le_trans (fb1 hfl) hlen) fun s₇ c2 g₇ zs2 x y hlg2' hov2 => rv ?_)⟩
      have le7 : GLe gg g₇ := y.ggr
      have hz2 := hov2.length
      replace σ := σ.growN x y
      refine add_lists σ (σ.HL .head) (σ.HLg hlg2') (by simp; exact sz (fb4 hz2 hfl hlen) rfl) ?_
      clear σ; intro c3 s₈ σ _
      refine ⟨_, _, _, rfl, σ.HL (.tail (.tail (.tail .head))), σ.HL .head, by simp; exact fb6 hoL hz1 hz2 hfl hlen, fun s₅ x hx => ?_⟩
      replace σ := (σ.modL (.tail (.tail (.tail .head))) x hx).drop (.cons _ (List.sublist_cons_self ..))
      have ho3 := (ho2.mono (hgg.trans le7)).append (OpsV.append (.cons (op := [5]) ⟨_, htg.mono le7, by repeat constructor⟩ .nil) hov2)
      have leA : GLe g₂ g₇ := le6.trans (hgg.trans le7)
      walk_at "W"
      refine m_append ?_
      walk_at "W"
      refine k_app1 (σ.HL (.tail .head)) ?_
      walk_at "W"
      refine k_app2 σ (.tail .head) (by simp; exact sz (fb5 hoL hz1 hz2 hfl hlen) rfl) ?_
      clear σ; intro s₅ σ
      have ho4 := (ho3.mono hgg).snoc (op := [11]) ⟨_, htg, by repeat constructor⟩
      walk_at "W"
      exact fN _ _ _ _ _ _ (le.trans (leA.trans hgg)) (by simpa [flatN] using ho4) σ
  · clear σ
    rintro s₂ _ _ g₂ ⟨ys, x1, x2, x3, rfl, rfl, le, ho⟩ σ
    walk_at "W"
    rw [hll, List.take_length] at ho
    obtain ⟨g₃, le3, hlg, σ⟩ := σ.frzL (.refl _) hla
    exact cont _ _ _ _ σ.ext σ.grownOf hlg (ho.mono le3)
end
theorem NodeV.head {g : FH} {v n} (h : NodeV g v n) : ∃ a p x y, v = .ref a ∧ TG g a [.ref p, x, y] ∧ OpG g p (opOf n) := by
  cases h with
  | leaf a b => exact ⟨_, _, _, _, rfl, a, b⟩
  | one a b => exact ⟨_, _, _, _, rfl, a, b⟩
  | two a b => exact ⟨_, _, _, _, rfl, a, b⟩
noncomputable def tabD : List (PyData × PyData) := [(.str (Str.ofString "sg"), .str (Str.ofString "t")), (.str (Str.ofString "gs"), .str (Str.ofString "")), (.str (Str.ofString "ts"), .str (Str.ofString "s")), (.str (Str.ofString "gt"), .str (Str.ofString "g")), (.str (Str.ofString "tt"), .str (Str.ofString "t"))]
noncomputable def chr (c : Int) : Nat := if c = 32 then 103 else if c = 33 then 115 else 116
inductive Fnd : PyData → Option (List Int) → Prop
  | none : Fnd .none none
  | zero : Fnd (.str ⟨#[]⟩) (some [])
  | one {c : Int} : c = 32 ∨ c = 33 ∨ c = 34 → Fnd (.str ⟨#[chr c]⟩) (some [c])
theorem fnd_two {c d : Int} (h1 : 32 ≤ c) (h2 : c ≤ 34) (h3 : 32 ≤ d) (h4 : d ≤ 34) : Fnd ((Spec.lookup (.str ⟨#[chr c, chr d]⟩) tabD).getD .none) (twoS c d) := by
  have hc : c = 32 ∨ c = 33 ∨ c = 34 := by lia
  have hd : d = 32 ∨ d = 33 ∨ d = 34 := by lia
  rcases hc with rfl | rfl | rfl <;> rcases hd with rfl | rfl | rfl
  · exact .none
  · exact .zero
  · exact .one (.inl rfl)
  · exact .one (.inr (.inr rfl))
  · exact .none
  · exact .none
  · exact .none
  · exact .one (.inr (.inl rfl))
  · exact .one (.inr (.inr rfl))
theorem Fnd.some' {pd : PyData} {cs : List Int} (h : Fnd pd (some cs)) : ∃ x, pd = .str x ∧ x.cps = (cs.map chr).toArray ∧ cs.length ≤ 1 ∧ ∀ c ∈ cs, c = 32 ∨ c = 33 ∨ c = 34 := by
  cases h with
  | zero => exact ⟨_, rfl, rfl, by simp, by simp⟩
  | one hc => exact ⟨_, rfl, rfl, by simp, by simpa using hc⟩
theorem gst_at {c : Int} (h : c = 32 ∨ c = 33 ∨ c = 34) : (Str.ofString "gst").cps[(c - 32).toNat]? = some (chr c) := by
  rcases h with rfl | rfl | rfl <;> rfl
theorem gst_index {c : Int} (h : c = 32 ∨ c = 33 ∨ c = 34) : ∃ i rest, occurrences (Str.ofString "gst") ⟨#[chr c]⟩ 0 (Str.ofString "gst").length 1 = i :: rest ∧ (32 : Int) + (i : Nat) = c := by
  rcases h with rfl | rfl | rfl
  · exact ⟨0, [], by with_unfolding_all rfl, by decide⟩
  · exact ⟨1, [], by with_unfolding_all rfl, by decide⟩
  · exact ⟨2, [], by with_unfolding_all rfl, by decide⟩
section
variable {prog : Program} {w : World} {hb : Heap} {A : Around} {g : FH} {s : Shared} {R : Result → Shared → Prop}

theorem two_c (W : Wld hb) (room : Room 3 A) (hz : Frz hb g s) {v1 v2 : Value} {n1 n2 : Node} (h1 : NodeV g v1 n1) (h2 : NodeV g v2 n2) (o1 : OpOk (opOf n1)) (o2 : OpOk (opOf n2))
    (k : ∀ s' v g', Ext [] s s' → Grown g s g' s' → (twoN (opOf n1) (opOf n2) = none ∧ v = .none ∨ ∃ c xs l, v = .ref c ∧ LG g' c xs ∧ NodesV g' xs l ∧ twoN (opOf n1) (opOf n2) = some l) → R (.ok (.ret v)) s') :
    codeAny (model prog w) A (.call (.ref 288) ⟨[v1, v2], []⟩) R s := by
  obtain ⟨a1, p1, x1, y1, rfl, ht1, po1, htp1, hi1⟩ := h1.head
  obtain ⟨a2, p2, x2, y2, rfl, ht2, po2, htp2, hi2⟩ := h2.head
  obtain ⟨c, t1, e1, l1, f1⟩ := o1
  obtain ⟨d, t2, e2, l2, f2⟩ := o2
  rw [e1, e2] at k
  rw [e1] at hi1
  rw [e2] at hi2
  clear e1 e2 h1 h2
  cases hi1 with | cons _ tk1 hi1 =>
  cases hi2 with | cons _ tk2 hi2 =>
  rename_i q1 q2
  have hq1 := ints_len hi1
  have hq2 := ints_len hi2
  have hsl : sizeLine = 16777216 := rfl
  refine startC (led := []) [] [(n_one, .ref a1), (n_other, .ref a2)] [(n_other, .ref a2)] [n_word, n_found] [] [(n_one, some (.ref a1))] [n_one, n_other] [n_one]
    (ns := [n_other, n_word, n_found]) (vs := [some (.ref a2), none, none]) W.fn_wtwo (room_depth room) hz rfl (by with_unfolding_all rfl) (by with_unfolding_all rfl) rfl rfl rfl rfl (by decide +kernel) (by simp) (by simp) (by simp) ?_
  intro env E s₁ cs hG hcs σ
  cases hcs with | cons ec hcs =>
  cases hcs
  rename_i cone
  simp only [cellLed, List.nil_append, List.cons_append, List.append_nil] at σ
  have R1 : Room 2 (A.deeper env) := room.deeper
  have hA : (A.deeper env).handled = none := R1.1
  (show wpAny _ _ (execs (_ :: _) _) _ _ _; dsimp only [qn_BLOCK, qn_DROP, qn_ELSE, qn_END, qn_FUNCTION, qn_Func, qn_IF, qn_LOCAL_GET, qn_LOCAL_SET, qn_LOCAL_TEE, qn_LOOP, qn_Module, qn_Piece, qn__name__, qn_law_behind, qn_law_flat, qn_law_is_kept_right, qn_law_items, qn_law_join, qn_law_joined, qn_law_kept, qn_law_next, qn_law_pick, qn_law_run, qn_law_two, qn_wall, qn_ahead, qn_at, qn_body, qn_body_of, qn_codes, qn_deep, qn_due, qn_first, qn_found, qn_func, qn_given, qn_height, qn_here, qn_index, qn_inner, qn_int, qn_is_else, qn_items, qn_join_last, qn_join_locals, qn_k, qn_kept, qn_kind, qn_len, qn_list, qn_local, qn_locals_now, qn_many, qn_module, qn_name, qn_number, qn_one, qn_opened, qn_other, qn_out, qn_own, qn_params, qn_part, qn_parts_of, qn_piece, qn_pieces, qn_pieces_of, qn_place, qn_places, qn_plain, qn_property, qn_put_pieces, qn_range, qn_read, qn_rest, qn_script, qn_second, qn_self, qn_sign, qn_sort, qn_stack, qn_state, qn_sum, qn_tape, qn_thing, qn_things, qn_told, qn_tuple, qn_turn, qn_two, qn_values, qn_way, qn_without_locals, qn_word])
  refine xs_if ?_
  walk_at "W"
  (refine ⟨_, _, _, σ, ?_⟩; clear σ; intro sa gsl _ σ hgs hsg)
  refine sl_tuple σ (a := 1) (σ.HT (htp1.mono hgs)) hsg (Nat.le_refl _) (by simp) (by simp; lia) ?_
  clear σ; intro t3 g3 s3 σ hg3 ht3
  have le3 : GLe g g3 := by walk_at "gle"
  replace ht2 := ht2.mono le3
  replace htp2 := htp2.mono le3
  walk_at "W"
  (refine ⟨_, _, _, σ, ?_⟩; clear σ; intro sa gsl _ σ hgs hsg)
  refine sl_tuple σ (a := 1) (σ.HT (htp2.mono (by walk_at "gle"))) hsg (Nat.le_refl _) (by simp) (by simp; lia) ?_
  clear σ; intro t4 g4 s4 σ hg4 ht4
  simp only [List.drop_succ_cons, List.drop_zero] at ht3 ht4
  refine c_ne_intsT (σ.HT (ht3.mono (by walk_at "gle"))) (σ.HT ht4) hi1 hi2 (room_units R1) ?_
  have fin0 : ∀ s', S hb s [] g env [n_other, n_word, n_found] [some (Value.ref a2), none, none] [(cone, IsC (some (Value.ref a1)))] g4 s' → twoN (c :: t1) (d :: t2) = none → R (.ok (.ret .none)) s' := fun s' σ e => k _ _ _ σ.ext σ.grownOf (.inl ⟨e, rfl⟩)
  refine tr_bool (sp_n (sp_d (fun ht => ?_) (fun ht => ?_)))
  rotate_left
  · walk_at "W"
    refine fin0 _ σ ?_
    unfold twoN
    split
    · rename_i c' i' d' j' e1 e2
      cases e1; cases e2
      rw [if_neg (fun q => ht (by rw [q]))]
    · rfl
  subst ht
  walk_at "W"
  have le4 : GLe g3 g4 := by walk_at "gle"
  replace ht1 := ht1.mono (le3.trans le4)
  replace ht2 := ht2.mono le4
  replace htp1 := htp1.mono (le3.trans le4)
  replace htp2 := htp2.mono le4
  have nope : ¬ (32 ≤ c ∧ c ≤ 34 ∧ 32 ≤ d ∧ d ≤ 34) → twoN (c :: t1) (d :: t1) = none := fun h => by
    unfold twoN
    split
    · rename_i c' i' d' j' e1 e2
      cases e1; cases e2
      have : twoS c d = none := twoS_none h
      rw [this]; split <;> rfl
    · rfl
  (repeat' (first | walk_at "st" | (with_reducible refine sp_d ?_ ?_ <;> intro _)))
  all_goals try exact fin0 _ σ (nope fun q => by first | exact ‹¬ d ≤ 34› q.2.2.2 | exact ‹¬ 32 ≤ d› q.2.2.1 | exact ‹¬ c ≤ 34› q.2.1 | exact ‹¬ 32 ≤ c› q.1)
  have hc : c = 32 ∨ c = 33 ∨ c = 34 := by lia
  have hd : d = 32 ∨ d = 33 ∨ d = 34 := by lia
  refine ix_str σ (by lia) (by lia) (gst_at hc) ?_
  clear σ; intro _ _ σ
  walk_at "W"
  refine ix_str σ (by lia) (by lia) (gst_at hd) ?_
  clear σ; intro _ _ σ
  refine add_1 σ ?_
  clear σ; intro _ _ σ
  walk_at "W"
  refine' m_dget σ (fun σ => ?_) (D := tabD) ?a1 ?a2 ?a3 ?a4 ?a5 ?a6 ?a7 ?_ ?a8 ?a9 ?a10
  case a1 => rfl
  case a2 => rfl
  case a3 => decide +kernel
  case a4 => rfl
  case a5 => rfl
  case a6 => simp
  case a7 => decide
  case a8 => with_unfolding_all rfl
  case a9 => with_unfolding_all rfl
  case a10 => with_unfolding_all rfl
  · obtain ⟨o, ho, _⟩ := W.fn_wtwo.fn
    have := Heap.lt_size (σ.hbs _ _ ho)
    exact Nat.le_trans (by decide) (Nat.le_of_lt this)
  clear σ; intro dd kvs s5 σ hf
  walk_at "W"
  refine ⟨_, _, _, _, rfl, σ, ?_⟩
  clear σ; intro v s6 hv σ
  obtain ⟨i, rfl⟩ := f1 (by lia) (by lia)
  cases hi1 with | cons _ tki hi1 =>
  cases hi1
  have hF := fnd_two (c := c) (d := d) (by lia) (by lia) (by lia) (by lia)
  generalize hL : (Spec.lookup (PyData.str ⟨#[chr c, chr d]⟩) tabD).getD .none = pd at hv hF
  have htw : twoN [c, i] [d, i] = (twoS c d).map (·.map fun k => .leaf [k, i]) := by simp [twoN]
  rw [htw] at k
  clear htw fin0 nope hL
  generalize twoS c d = out at hF k
  cases out with
  | none =>
    cases hF
    have := PyProof.V.Flat.none_inv hv
    subst this
    walk_at "W"
    exact k _ _ _ σ.ext σ.grownOf (.inl ⟨rfl, rfl⟩)
  | some cs =>
    obtain ⟨x, rfl, hx, hl1, hcs⟩ := hF.some'
    obtain ⟨tt, rfl⟩ := PyProof.V.Flat.str_inv hv
    have hsz : x.cps.size = cs.length := by rw [hx]; simp
    walk_at "W"
    refine' e_comp σ ?a1 rfl ?a2 ?a3 ?a4 ?a5 ?_ ?a6
    case a1 => decide +kernel
    case a2 => decide +kernel
    case a3 => decide +kernel
    case a4 => decide +kernel
    case a5 => exact hf_of [n_one] (by decide +kernel) ⟨⟨_, ec⟩, trivial⟩
    case a6 => intro _; with_unfolding_all rfl
    walk_at "W"
    refine iter_of_str σ ?_ ?_
    · rw [hx]
      simp only [List.all_toArray, List.all_map, List.all_eq_true]
      intro c hc
      rcases hcs c hc with rfl | rfl | rfl <;> rfl
    have hkind := σ.eok.kind
    clear σ; intro it s7 σ hit
    refine ⟨it, _, _, _, _, _, _, _, fun j acc g' => NodesV g' acc ((cs.map fun k => Node.leaf [k, i]).take j), rfl, iter_str hA, σ, hit, by lia, fun _ _ _ _ => trivial, by simpa using NodesV.nil, ?_, ?_⟩
    · clear σ
      intro j acc g' v D C s' E' hj hv hJ hle _ σ
      obtain ⟨ch, u, hch, rfl⟩ := hv
      have ec' := ec_in σ hkind ec (by decide +kernel)
      have hjl : j < cs.length := by lia
      have hch' : ch = chr cs[j] := by
        rw [hx] at hch
        simp [hjl] at hch
        exact hch.symm
      subst hch'
      have hcj := hcs _ (List.getElem_mem hjl)
      refine ifs_nil ?_
      rw [if_pos rfl]
      replace ht1 := ht1.mono hle
      replace htp1 := htp1.mono hle
      walk_at "W"
      refine m_sindex σ ?_
      clear σ; intro s' σ
      walk_at "W"
      obtain ⟨ii, rest, hocc, hii⟩ := gst_index hcj
      refine ⟨_, _, _, _, _, _, _, rfl, hocc, σ, ?_⟩
      clear σ; intro tn s' σ
      refine i_add σ ?_
      clear σ; intro tn s' σ
      rw [hii]
      walk_at "W"
      have e : (cs.map fun k => Node.leaf [k, i]).take (j + 1) = (cs.map fun k => Node.leaf [k, i]).take j ++ [.leaf [cs[j], i]] := by
        rw [List.take_add_one, List.getElem?_map, List.getElem?_eq_getElem hjl]; rfl
      have hJ2 := (hJ.mono ((by assumption : GLe g' _).trans hgg)).snoc (node_leaf (by assumption) (by assumption) htg (.cons _ _ (.cons _ _ .nil)))
      rw [← e] at hJ2
      refine ⟨_, ?_, hJ2, σ⟩
      walk_at "gle"
    · clear σ
      intro acc g' D hJ hle hal hD s' σ
      obtain ⟨g₂, le2, hlg, σ⟩ := σ.frzL (.refl _) hD
      rw [hsz, List.take_of_length_le (by simp)] at hJ
      exact k _ _ _ σ.ext σ.grownOf (.inr ⟨_, _, _, rfl, hlg, hJ.mono le2, rfl⟩)
end
theorem joinM_take {l : List Node} {i : Nat} {n : Node} (h : l[i]? = some n) : joinM (l.take (i + 1)) = joinM (l.take i) ++ [joinN n] := by
  rw [List.take_add_one, h, joinM_map, joinM_map]; simp
theorem pick_upto (ys : List Value) {a : Int} (h0 : 0 ≤ a) (h1 : a ≤ ys.length) : slicePick ys.toArray none (some a) none = (ys.take a.toNat).toArray := by
  obtain ⟨n, rfl⟩ : ∃ n : Nat, a = n := ⟨a.toNat, by lia⟩
  rw [slicePick_upto _ _ (by simp; lia)]; simp
theorem pick_from (ys : List Value) {a : Int} (h0 : 0 ≤ a) (h1 : a ≤ ys.length) : slicePick ys.toArray (some a) none none = (ys.drop a.toNat).toArray := by
  obtain ⟨n, rfl⟩ : ∃ n : Nat, a = n := ⟨a.toNat, by lia⟩
  rw [slicePick_from _ _ (by simp; lia)]; simp
theorem NodesV.take {g : FH} {xs l} (i : Nat) (x : NodesV g xs l) : NodesV g (xs.take i) (l.take i) := by
  revert i
  exact x.ind (P := fun xs l => ∀ i : Nat, NodesV g (xs.take i) (l.take i)) (fun i => by rw [List.take_nil, List.take_nil]; exact .nil) fun a _ ih i => by
    cases i with
    | zero => exact .nil
    | succ i => exact .cons a (ih i)
theorem NodesV.drop {g : FH} {xs l} (i : Nat) (x : NodesV g xs l) : NodesV g (xs.drop i) (l.drop i) := by
  revert i
  exact x.ind (P := fun xs l => ∀ i : Nat, NodesV g (xs.drop i) (l.drop i)) (fun i => by rw [List.drop_nil, List.drop_nil]; exact .nil) fun a b ih i => by
    cases i with
    | zero => exact .cons a b
    | succ i => exact ih i
section
variable {prog : Program} {w : World} {hb : Heap}

theorem joined_c (W : Wld hb) {m : Int} : ∀ (k : Nat) {A : Around} {g : FH} {s : Shared} {R : Result → Shared → Prop} {a : Addr} {xs : List Value} {l : List Node}, Room (k + 4) A → Frz hb g s → LG g a xs → NodesV g xs l → depL l ≤ k → (flatL l).length ≤ 5000 → GoodL m l →
    (∀ s' c g' ys, Ext [] s s' → Grown g s g' s' → LG g' c ys → NodesV g' ys (joinL l) → R (.ok (.ret (.ref c))) s') →
    codeAny (model prog w) A (.call (.ref 295) ⟨[.ref a], []⟩) R s := by
  intro k
  induction k using Nat.strongRecOn with
  | ind k ih =>
  intro A g s R a xs l room hz ha hv hdp hlen hgood cont
  refine start (led := []) [] [(n_items, .ref a)] [n_found, n_plain, n_first, n_second, n_inner, n_at, n_two] [n_law_joined, n_law_two, n_len]
    (ns := [n_items, n_found, n_plain, n_first, n_second, n_inner, n_at, n_two]) (vs := [some (.ref a), none, none, none, none, none, none, none]) W.fn_wjoined (room_depth room) hz (BindsTo.of_eq rfl) rfl rfl (by decide +kernel) (by simp) (by simp) (by simp) ?_
  intro env E s₁ hG σ
  have R1 : Room (k + 3) (A.deeper env) := room.deeper
  have hA : (A.deeper env).handled = none := R1.1
  have hsl : sizeLine = 16777216 := rfl
  (show wpAny _ _ (execs (_ :: _) _) _ _ _; dsimp only [qn_BLOCK, qn_DROP, qn_ELSE, qn_END, qn_FUNCTION, qn_Func, qn_IF, qn_LOCAL_GET, qn_LOCAL_SET, qn_LOCAL_TEE, qn_LOOP, qn_Module, qn_Piece, qn__name__, qn_law_behind, qn_law_flat, qn_law_is_kept_right, qn_law_items, qn_law_join, qn_law_joined, qn_law_kept, qn_law_next, qn_law_pick, qn_law_run, qn_law_two, qn_wall, qn_ahead, qn_at, qn_body, qn_body_of, qn_codes, qn_deep, qn_due, qn_first, qn_found, qn_func, qn_given, qn_height, qn_here, qn_index, qn_inner, qn_int, qn_is_else, qn_items, qn_join_last, qn_join_locals, qn_k, qn_kept, qn_kind, qn_len, qn_list, qn_local, qn_locals_now, qn_many, qn_module, qn_name, qn_number, qn_one, qn_opened, qn_other, qn_out, qn_own, qn_params, qn_part, qn_parts_of, qn_piece, qn_pieces, qn_pieces_of, qn_place, qn_places, qn_plain, qn_property, qn_put_pieces, qn_range, qn_read, qn_rest, qn_script, qn_second, qn_self, qn_sign, qn_sort, qn_stack, qn_state, qn_sum, qn_tape, qn_thing, qn_things, qn_told, qn_tuple, qn_turn, qn_two, qn_values, qn_way, qn_without_locals, qn_word])
  walk_at "W"
  rcases (⟨la, rfl⟩ : ∃ x, x = la) with ⟨ba, rfl⟩
  refine xs_for ?_ (by intro _; with_unfolding_all rfl)
  walk_at "W"
  have hll := hv.length
  have hfl0 := flatL_length l
  refine for_list σ hA a xs (fun i vs' led' g' => ∃ ys x1 x2 x3 x4, vs' = [some (.ref a), some (.ref ba), x1, x2, x3, x4, none, none] ∧ led' = [(ba, IsL ys)] ∧ GLe g g' ∧ NodesV g' ys (joinM (l.take i)))
    ?_ ⟨[], _, _, _, _, rfl, rfl, .refl, .nil⟩ ?_ ?_ (.inr ⟨_, _, _, rfl, hv.refs⟩)
  · rintro i _ _ g' s' ⟨ys, x1, x2, x3, x4, rfl, rfl, le, ho⟩ σ
    exact σ.HLg (ha.mono le)
  · clear σ
    rintro i v s₂ _ _ g₂ it E₂ TT hN hT hx ⟨ys, x1, x2, x3, x4, rfl, rfl, le, ho⟩ σ
    obtain ⟨n, hn, hnv⟩ := hv.get hx
    replace hnv := hnv.mono le
    have hgn := hgood.get hn
    have hfl := flatN_le hn
    have hdn := depN_le hn
    have hoL := ho.length
    rw [joinM_len] at hoL
    have hil : (l.take i).length ≤ l.length := by rw [List.length_take]; exact Nat.min_le_right _ _
    have hT : ys.length ≤ sizeLine := sz (Nat.le_trans (Nat.le_of_eq hoL) (Nat.le_trans hil (Nat.le_trans hfl0 hlen))) rfl
    rw [joinM_take hn] at hN
    have fN := fun ys x1 x2 x3 x4 s₃ g'' h1 h2 σ => hN s₃ _ _ g'' ⟨ys, x1, x2, x3, x4, rfl, rfl, h1, h2⟩ σ
    clear hN
    cases hnv with
    | leaf ht hop =>
      refine as_tuple3 σ hA (σ.HT ht) rfl ?_
      clear σ; intro s₃ σ
      walk_at "W"
      refine m_append ?_
      walk_at "W"
      refine k_app1 (σ.HL (.tail .head)) ?_
      walk_at "W"
      refine k_app2 σ (.tail .head) hT ?_
      clear σ; intro s₅ σ
      walk_at "W"
      refine fN _ _ _ _ _ _ _ ?_ ((ho.mono hgg).snoc (.leaf htg (hop.mono hgg))) σ
      walk_at "gle"
    | one ht hop hlg hvs =>
      rename_i l'
      refine as_tuple3 σ hA (σ.HT ht) rfl ?_
      clear σ; intro s₃ σ
      walk_at "W"
      refine e_call σ hG W.gv_wjoined W.fn_wjoined (by walk_at "in") ?_
      walk_at "W"
      have hd1 := hdn
      simp only [depN, flatN, List.length_cons, List.length_append] at hd1 hfl
      refine ⟨σ.hbs, w_call (ih (depL l') (Nat.lt_of_lt_of_le hd1 hdp) (R1.le (Nat.add_le_add_right (Nat.lt_of_lt_of_le hd1 hdp) 3)) σ.fz hlg hvs (Nat.le_refl _) (Nat.le_trans (fa1 hfl) hlen) hgn.2 fun s₆ c g₆ zs x y hlg' hov => rv ?_)⟩
      have le6 : GLe g₂ g₆ := y.ggr
      replace σ := σ.growN x y
      walk_at "W"
      refine m_append ?_
      walk_at "W"
      refine k_app1 (σ.HL (.tail .head)) ?_
      walk_at "W"
      refine k_app2 σ (.tail .head) hT ?_
      clear σ; intro s₅ σ
      walk_at "W"
      refine fN _ _ _ _ _ _ _ ?_ ((ho.mono (le6.trans hgg)).snoc (.one htg (hop.mono (le6.trans hgg)) (hlg'.mono hgg) (hov.mono hgg))) σ
      walk_at "gle"
    | two ht hop hlg hvs hlg2 hvs2 =>
      rename_i L1 _ L2
      refine as_tuple3 σ hA (σ.HT ht) rfl ?_
      clear σ; intro s₃ σ
      walk_at "W"
      refine e_call σ hG W.gv_wjoined W.fn_wjoined (by walk_at "in") ?_
      walk_at "W"
      have hd1 := hdn
      simp only [depN, flatN, List.length_cons, List.length_append] at hd1 hfl
      refine ⟨σ.hbs, w_call (ih (depL L1) (mx_l hd1 hdp) (R1.le (Nat.add_le_add_right (mx_l hd1 hdp) 3)) σ.fz hlg hvs (Nat.le_refl _) (Nat.le_trans (fa1 hfl) hlen) hgn.2.1 fun s₆ c g₆ zs x y hlg' hov => rv ?_)⟩
      have le6 : GLe g₂ g₆ := y.ggr
      replace σ := σ.growN x y
      walk_at "W"
      refine m_append ?_
      walk_at "W"
      refine k_app1 (σ.HL (.tail .head)) ?_
      walk_at "W"
      refine e_call σ hG W.gv_wjoined W.fn_wjoined (by walk_at "in") ?_
      walk_at "W"
      refine ⟨σ.hbs, w_call (ih (depL L2) (mx_r hd1 hdp) (R1.le (Nat.add_le_add_right (mx_r hd1 hdp) 3)) σ.fz (hlg2.mono (by walk_at "gle")) (hvs2.mono (by walk_at "gle")) (Nat.le_refl _) (Nat.le_trans (fb1 hfl) hlen) hgn.2.2 fun s₇ c2 g₇ zs2 x y hlg2' hov2 => rv ?_)⟩
      have le7 : GLe g₆ g₇ := y.ggr
      replace σ := σ.growN x y
      walk_at "W"
      refine k_app2 σ (.tail .head) hT ?_
      clear σ; intro s₅ σ
      walk_at "W"
      refine fN _ _ _ _ _ _ _ ?_ ((ho.mono (le6.trans (le7.trans hgg))).snoc (.two htg (hop.mono (le6.trans (le7.trans hgg))) (hlg'.mono (le7.trans hgg)) (hov.mono (le7.trans hgg)) (hlg2'.mono hgg) (hov2.mono hgg))) σ
      walk_at "gle"
  · clear σ
    rintro s₂ _ _ g₂ ⟨ys, x1, x2, x3, x4, rfl, rfl, le, ho⟩ σ
    rw [hll, List.take_length] at ho
    have hoL := ho.length
    rw [joinM_len] at hoL
    walk_at "W"
    refine e_bfun1 σ hG W.bv_len (by walk_at "in") ?_
    walk_at "W"
    refine k_len σ (σ.HL .head) (sz (Nat.le_trans (Nat.le_of_eq hoL) (Nat.le_trans hfl0 hlen)) rfl) ?_
    clear σ; intro tn s₃ σ
    walk_at "W"
    refine xs_while (fun M s' => ∃ (c : Addr) (ys : List Value) (nl : List Node) (at' : Int) (tat : Tok) (x1 x2 x3 x4 x5 : Option Value) (g' : FH), M = nl.length * 6000 + (at' + 2).toNat ∧ -2 ≤ at' ∧ at' + 2 ≤ (nl.length : Int) ∧ nl.length ≤ 5000 ∧ GLe g g' ∧ NodesV g' ys nl ∧ Steps (joinM l) nl ∧ NormF nl at' ∧ s.heap.get? c = none ∧
      S hb s [] g env [n_items, n_found, n_plain, n_first, n_second, n_inner, n_at, n_two] [some (.ref a), some (.ref c), x1, x2, x3, x4, some (.int at' tat), x5] [(c, IsL ys)] g' s') ((joinM l).length * 6000 + ((ys.length : Int) - 2 + 2).toNat) ?_ ?_
    · refine ⟨ba, ys, joinM l, (ys.length : Int) - 2, _, _, _, _, _, _, g₂, rfl, by lia, by rw [joinM_len]; lia, by rw [joinM_len]; lia, le, ho, .refl, ?_, hla, σ⟩
      intro i a b hi _ hb
      rw [List.getElem?_eq_none (by rw [joinM_len, ← hoL]; exact jw6 hi)] at hb; cases hb
    · clear σ
      rintro M s₄ E₄ TT hU ⟨c, ys, nl, at', tat, x1, x2, x3, x4, x5, g', rfl, hat, hat2, hnl, le, hv', hst, hnf, hfc, σ⟩
      have hyl := hv'.length
      walk_at "W"
      refine sp_d ?_ ?_
      · intro h0
        walk_at "W"
        obtain ⟨at0, rfl⟩ : ∃ n : Nat, at' = n := ⟨at'.toNat, by lia⟩
        have hl2 := jw8 hat2 hyl
        have hl1 := Nat.lt_of_succ_lt hl2
        have h63 := jw7 hat2 hnl
        obtain ⟨na, hna, hva⟩ := hv'.get (List.getElem?_eq_getElem hl1)
        obtain ⟨nb, hnb, hvb⟩ := hv'.get (List.getElem?_eq_getElem hl2)
        have hgl := hst.good (joinM_good hgood)
        have hga := hgl.get hna
        have hgb := hgl.get hnb
        refine e_call σ hG W.gv_wtwo W.fn_wtwo (by walk_at "in") ?_
        walk_at "W"
        refine ix_list (σ.HL .head) h0 (Int.lt_trans (Int.lt_succ _) h63) (x := ys[at0]) (by simp) ?_
        walk_at "W"
        refine ix_list (σ.HL .head) (Int.le_trans h0 (Int.le_of_lt (Int.lt_succ _))) h63 (x := ys[at0 + 1]) (List.getElem?_eq_getElem hl2) ?_
        walk_at "W"
        refine ⟨σ.hbs, w_call (two_c W (R1.le (by lia)) σ.fz hva hvb hga.ok hgb.ok fun s₆ v g₆ x y hres => rv ?_)⟩
        have le6 : GLe g' g₆ := y.ggr
        replace σ := σ.growN x y
        rw [good_two hga hgb] at hres
        rcases hres with ⟨hno, rfl⟩ | ⟨c2, zs, l2, rfl, hlg2, hzs, hyes⟩
        · walk_at "W"
          refine xs_if ?_
          walk_at "W"
          refine ⟨_, ?_, c, ys, nl, (at0 : Int) - 1, _, _, _, _, _, _, g₆, rfl, by lia, by lia, hnl, le.trans le6, hv'.mono le6, hst, ?_, hfc, σ⟩
          · exact jw1 _ _
          · intro i a b hi ea eb
            by_cases e : i = at0
            · subst e
              rw [hna] at ea; rw [hnb] at eb; cases ea; cases eb; exact hno
            · exact hnf i a b (by lia) ea eb
        · walk_at "W"
          refine xs_if ?_
          walk_at "W"
          (refine ⟨_, _, _, σ, ?_⟩; clear σ; intro sa gsl _ σ hgs hsg)
          have hys : ys.length ≤ sizeLine := sz (Nat.le_trans (Nat.le_of_eq hyl) hnl) rfl
          have hz1 := Nat.le_trans (Nat.le_of_eq hzs.length) (two_of hyes).len
          refine sl_list σ (σ.HL .head) hsg .none (.int _ _) hys (pick_upto ys h0 (Int.ofNat_le.2 (Nat.le_of_lt hl1))) ?_
          clear σ; intro c3 s₇ σ hf3
          walk_at "W"
          refine add_lists σ (σ.HL .head) (σ.HLg (hlg2.mono (by walk_at "gle"))) (by simp; exact sz (jw2 hnl hyl hz1) rfl) ?_
          clear σ; intro c4 s₈ σ hf4
          walk_at "W"
          (refine ⟨_, _, _, σ, ?_⟩; clear σ; intro sa gsl _ σ hgs hsg)
          refine sl_list σ (σ.HL (.tail (.tail .head))) hsg (.int _ _) .none hys (pick_from ys (by lia) (by rw [hyl]; exact hat2)) ?_
          clear σ; intro c5 s₉ σ hf5
          refine add_lists σ (σ.HL (.tail .head)) (σ.HL .head) (by simp; exact sz (jw3 hnl hyl hz1) rfl) ?_
          clear σ; intro c6 s₁₀ σ hf6
          walk_at "W"
          refine e_bfun1 σ hG W.bv_len (by walk_at "in") ?_
          walk_at "W"
          refine k_len σ (σ.HL .head) (by simp; exact sz (jw4 hnl hyl hz1) rfl) ?_
          clear σ; intro tn5 s₁₁ σ
          replace σ := σ.drop (led' := [(c6, _)]) (.cons₂ _ (by simp))
          walk_at "W"
          have hs2 := stp_at hna hnb hyes
          have hn2 := hs2.len
          have hN : NodesV gsl ((ys.take at0 ++ zs) ++ ys.drop (at0 + 2)) (nl.take at0 ++ (l2 ++ nl.drop (at0 + 2))) := by
            have h1 := (hv'.take at0).mono (show GLe g' gsl by walk_at "gle")
            have h2 := hzs.mono (show GLe g₆ gsl by walk_at "gle")
            have h3 := (hv'.drop (at0 + 2)).mono (show GLe g' gsl by walk_at "gle")
            have := (h1.append h2).append h3
            simpa using this
          have hNl := hN.length
          rw [show ((at0 : Int) + 2).toNat = at0 + 2 from rfl, show ((at0 : Int)).toNat = at0 from rfl] at σ
          refine ⟨_, ?_, c6, _, nl.take at0 ++ (l2 ++ nl.drop (at0 + 2)), _, _, _, _, _, _, _, gsl, rfl, ?_, ?_, ?_, ?_, hN, hst.trans (.tail hs2 .refl), ?_, hf6, σ⟩
          · rw [hNl]; exact jw5 hn2 hnl
          · lia
          · rw [hNl]; lia
          · exact Nat.le_trans (Nat.le_of_lt hn2) hnl
          · walk_at "gle"
          · intro i a b hi _ eb
            rw [hNl] at hi
            rw [List.getElem?_eq_none (jw6 hi)] at eb; cases eb
      · intro h0
        walk_at "W"
        obtain ⟨g₃, le3, hlg, σ⟩ := σ.frzL (.refl _) hfc
        refine cont _ _ _ _ σ.ext σ.grownOf hlg ?_
        rw [show joinL l = nl from (nf_is hst (hnf.normal (by lia))).symm]
        exact hv'.mono le3
end
noncomputable def behS (e : Bool) : List (List Int) → Int → Option Nat
  | [], _ => none
  | op :: r, deep => if 0 < deep ∨ (op.headD 0 ≠ 11 ∧ ¬ (e = true ∧ op.headD 0 = 5)) then
      (behS e r (deep + (if 2 ≤ op.headD 0 ∧ op.headD 0 ≤ 4 then 1 else 0) - (if op.headD 0 = 11 then 1 else 0))).map (· + 1)
    else some 1
theorem behS_yes {e : Bool} {c : Int} {t : List Int} {r : List (List Int)} {deep : Int} (h : 0 < deep ∨ (c ≠ 11 ∧ ¬ (e = true ∧ c = 5))) :
    behS e ((c :: t) :: r) deep = (behS e r (deep + (if 2 ≤ c ∧ c ≤ 4 then 1 else 0) - (if c = 11 then 1 else 0))).map (· + 1) := by
  conv => lhs; unfold behS
  exact if_pos h
theorem behS_no {e : Bool} {c : Int} {t : List Int} {r : List (List Int)} {deep : Int} (h : ¬ (0 < deep ∨ (c ≠ 11 ∧ ¬ (e = true ∧ c = 5)))) : behS e ((c :: t) :: r) deep = some 1 := by
  conv => lhs; unfold behS
  exact if_neg h
noncomputable def OpsOk (ops : List (List Int)) : Prop := ∀ op ∈ ops, op ≠ []
section
variable {prog : Program} {w : World} {hb : Heap}
theorem e_chain2 {A : Around} {E : Value → Shared → Prop} {env : Env} {s : Shared} {l op₁ op₂ r₁ r₂ pos} {Q : Value → Shared → Prop}
    (h : wpAny (model prog w) A (eval l env) (fun a s₁ => wpAny (model prog w) A (eval r₁ env) (fun b s₂ => wpAny (model prog w) A (compareOp op₁ a b) (fun c s₃ => wpAny (model prog w) A (truthy c)
      (fun t s₄ => (t = true → wpAny (model prog w) A (eval r₂ env) (fun d s₅ => wpAny (model prog w) A (compareOp op₂ b d) Q E s₅) E s₄) ∧ (t = false → Q c s₄)) E s₃) E s₂) E s₁) E s)
    (hm : lastMarks [op₁, op₂] [r₁, r₂] = false := by with_unfolding_all rfl) :
    wpAny (model prog w) A (eval (.Compare l [op₁, op₂] [r₁, r₂] pos) env) Q E s :=
  Compare_chain (wpAny_mono h (fun a s₁ h₁ => chain_link (wpAny_mono h₁ (fun b s₂ h₂ => wpAny_mono h₂ (fun c s₃ h₃ => wpAny_mono h₃ (fun t s₄ h₄ => by
    cases t with
    | true => exact chain_last (h₄.1 rfl)
    | false => exact h₄.2 rfl) fun _ _ q => q) fun _ _ q => q) fun _ _ q => q)) fun _ _ q => q) hm

theorem k_intb {A : Around} {E : Value → Shared → Prop} {s0 : Shared} {mods : List Addr} {g0 g : FH} {env : Env} {ns : List Str} {vs : List (Option Value)} {led : Led} {s : Shared} (σ : S hb s0 mods g0 env ns vs led g s) {b : Bool} {Q : Value → Shared → Prop}
    (h : ∀ t s', S hb s0 mods g0 env ns vs led g s' → Q (.int (if b = true then 1 else 0) t) s') : wpAny (model prog w) A (call (.type "int") [.bool b]) Q E s := call_int_bool (h _ _ σ.toks)
section
variable {A : Around} {E : Value → Shared → Prop} {s0 : Shared} {mods : List Addr} {g0 g : FH} {env : Env} {ns : List Str} {vs : List (Option Value)} {led : Led} {s : Shared}
theorem t_c0 (σ : S hb s0 mods g0 env ns vs led g s) {x : Str} {p : Addr} {c k : Int} {tk : Tok} {q : List Value} {p1 p2 p3 p4 p5 : Pos} {k1 k2 : Nat} {whole : Sem Value} {Q : Bool → Shared → Prop}
    (hx : At ns vs x (.ref p)) (hp : TG g p (.int c tk :: q)) (h : ∀ s', S hb s0 mods g0 env ns vs led g s' → Q (decide (c = k)) s') :
    wpAny (model prog w) A (isTrue (.Compare (.Subscript (.Name x p1) (.Constant (.int 0) k1 p2) p3) [.Eq] [.Constant (.int k) k2 p4] p5) env whole) Q E s := by
  refine t_cmp (e_sub (w_load σ hx (e_int σ fun _ _ σ => ix_tuple (σ.HT hp) (by decide) (by decide) (x := .int c tk) rfl (e_int σ fun _ _ σ => c_eq (tr_bool ?_)))))
  exact h _ σ
theorem if_c0f (σ : S hb s0 mods g0 env ns vs led g s) {x : Str} {p : Addr} {c k : Int} {tk : Tok} {q : List Value} {p1 p2 p3 p4 p5 pos : Pos} {k1 k2 : Nat} {body orelse rest : List Stmt} {Q : Flow → Shared → Prop}
    (hx : At ns vs x (.ref p)) (hp : TG g p (.int c tk :: q)) (hne : ¬ c = k) (h : ∀ s', S hb s0 mods g0 env ns vs led g s' → wpAny (model prog w) A (execs orelse env) (Seq prog w A E rest env Q) E s') :
    wpAny (model prog w) A (execs (.If (.Compare (.Subscript (.Name x p1) (.Constant (.int 0) k1 p2) p3) [.Eq] [.Constant (.int k) k2 p4] p5) body orelse pos :: rest) env) Q E s :=
  xs_if (t_c0 σ hx hp fun s' σ => sp_cf (h s' σ) hne)
theorem if_c0t (σ : S hb s0 mods g0 env ns vs led g s) {x : Str} {p : Addr} {c k : Int} {tk : Tok} {q : List Value} {p1 p2 p3 p4 p5 pos : Pos} {k1 k2 : Nat} {body orelse rest : List Stmt} {Q : Flow → Shared → Prop}
    (hx : At ns vs x (.ref p)) (hp : TG g p (.int c tk :: q)) (hne : c = k) (h : ∀ s', S hb s0 mods g0 env ns vs led g s' → wpAny (model prog w) A (execs body env) (Seq prog w A E rest env Q) E s') :
    wpAny (model prog w) A (execs (.If (.Compare (.Subscript (.Name x p1) (.Constant (.int 0) k1 p2) p3) [.Eq] [.Constant (.int k) k2 p4] p5) body orelse pos :: rest) env) Q E s :=
  xs_if (t_c0 σ hx hp fun s' σ => sp_ct (h s' σ) hne)
end
theorem behind_c (W : Wld hb) {A : Around} {g : FH} {s : Shared} {R : Result → Shared → Prop} (room : Room 2 A) (hz : Frz hb g s) {a : Addr} {xs : List Value} {ops : List (List Int)} (ha : LG g a xs) (hv : OpsV g xs ops) (hok : OpsOk ops) (hlen : ops.length ≤ 6000)
    {at0 n : Nat} {ta : Tok} {e : Bool} (hb' : behS e (ops.drop at0) 0 = some n)
    (cont : ∀ s' t, Ext [] s s' → R (.ok (.ret (.int ((at0 + n : Nat) : Int) t))) s') :
    codeAny (model prog w) A (.call (.ref 307) ⟨[.ref a, .int at0 ta, .bool e], []⟩) R s := by
  refine start (led := []) [] [(n_body, .ref a), (n_at, .int at0 ta), (n_is_else, .bool e)] [n_deep] [n_int]
    (ns := [n_body, n_at, n_is_else, n_deep]) (vs := [some (.ref a), some (.int at0 ta), some (.bool e), none]) W.fn_wbehind (room_depth room) hz (BindsTo.of_eq rfl) rfl rfl (by decide +kernel) (by simp) (by simp) (by simp) ?_
  intro env E s₁ hG σ
  have hA : (A.deeper env).handled = none := room.1
  have hxl := hv.length
  (show wpAny _ _ (execs (_ :: _) _) _ _ _; dsimp only [qn_BLOCK, qn_DROP, qn_ELSE, qn_END, qn_FUNCTION, qn_Func, qn_IF, qn_LOCAL_GET, qn_LOCAL_SET, qn_LOCAL_TEE, qn_LOOP, qn_Module, qn_Piece, qn__name__, qn_law_behind, qn_law_flat, qn_law_is_kept_right, qn_law_items, qn_law_join, qn_law_joined, qn_law_kept, qn_law_next, qn_law_pick, qn_law_run, qn_law_two, qn_wall, qn_ahead, qn_at, qn_body, qn_body_of, qn_codes, qn_deep, qn_due, qn_first, qn_found, qn_func, qn_given, qn_height, qn_here, qn_index, qn_inner, qn_int, qn_is_else, qn_items, qn_join_last, qn_join_locals, qn_k, qn_kept, qn_kind, qn_len, qn_list, qn_local, qn_locals_now, qn_many, qn_module, qn_name, qn_number, qn_one, qn_opened, qn_other, qn_out, qn_own, qn_params, qn_part, qn_parts_of, qn_piece, qn_pieces, qn_pieces_of, qn_place, qn_places, qn_plain, qn_property, qn_put_pieces, qn_range, qn_read, qn_rest, qn_script, qn_second, qn_self, qn_sign, qn_sort, qn_stack, qn_state, qn_sum, qn_tape, qn_thing, qn_things, qn_told, qn_tuple, qn_turn, qn_two, qn_values, qn_way, qn_without_locals, qn_word])
  walk_at "W"
  refine xs_while (fun M s' => ∃ (at1 n1 : Nat) (deep : Int) (td ta : Tok) (g' : FH), M = n1 ∧ GLe g g' ∧ at1 + n1 = at0 + n ∧ behS e (ops.drop at1) deep = some n1 ∧
    S hb s [] g env [n_body, n_at, n_is_else, n_deep] [some (.ref a), some (.int at1 ta), some (.bool e), some (.int deep td)] [] g' s') n ⟨at0, n, 0, _, _, _, rfl, .refl, rfl, hb', σ⟩ ?_
  clear σ
  rintro M s₂ E₂ TT hU ⟨at1, n1, deep, td, ta1, g', rfl, le, hat, hbs, σ⟩
  cases hop : ops.drop at1 with
  | nil => rw [hop] at hbs; cases hbs
  | cons op r =>
    rw [hop] at hbs
    have hlt : at1 < ops.length := by
      rcases Nat.lt_or_ge at1 ops.length with q | q
      · exact q
      · rw [List.drop_eq_nil_of_le q] at hop; cases hop
    have hget : ops[at1]? = some op := by
      have := congrArg (·[0]?) hop
      simpa using this
    have hx1 : at1 < xs.length := Nat.lt_of_lt_of_le hlt (Nat.le_of_eq hxl.symm)
    obtain ⟨p, op', hp, ho', hpo⟩ := hv.get (List.getElem?_eq_getElem hx1)
    rw [hget] at ho'; cases ho'
    have hdr : ops.drop (at1 + 1) = r := by
      rw [← List.drop_drop, hop]; rfl
    have hne := hok op (List.mem_of_getElem? hget)
    cases op with
    | nil => exact absurd rfl hne
    | cons c t =>
    obtain ⟨po, hpt, hpi⟩ := hpo
    cases hpi with | cons _ tk hpi =>
    rename_i q1
    replace hpt := hpt.mono le
    have hxs : xs[(at1 : Int).toNat]? = some (.ref p) := by rw [Int.toNat_natCast, List.getElem?_eq_getElem hx1, hp]
    have hal := ha.mono le
    refine t_by σ (0 < deep ∨ (c ≠ 11 ∧ ¬ (e = true ∧ c = 5))) ?_ ?_ ?_
    · cases e
      · (repeat' (first | walk_at "st" | (with_reducible refine sp_d ?_ ?_ <;> intro _)))
        all_goals (refine ⟨?_, _, ?_, σ⟩; (first | exact iff_of_true rfl (.inl ⟨‹_›, ‹_›⟩) | exact iff_of_true rfl (.inr (.inl ⟨‹_›, ‹_›⟩)) | exact iff_of_true rfl (.inr (.inr ⟨‹_›, ‹_›⟩)) | exact iff_of_false Bool.false_ne_true (fun q => q.elim (fun q => by first | exact absurd q.1 ‹_› | exact absurd q.2 ‹_›) fun q => q.elim (fun q => by first | exact absurd q.1 ‹_› | exact absurd q.2 ‹_›) fun q => by first | exact absurd q.1 ‹_› | exact absurd q.2 ‹_›) | exact iff_of_true rfl (.inl ‹_›) | exact iff_of_true rfl (.inr ⟨‹_›, fun q => absurd q.1 Bool.false_ne_true⟩) | exact iff_of_true rfl (.inr ⟨‹_›, fun q => absurd q.2 ‹_›⟩) | exact iff_of_false Bool.false_ne_true (fun q => q.elim (fun q => absurd q ‹_›) fun q => absurd ‹_› q.1) | exact iff_of_false Bool.false_ne_true (fun q => q.elim (fun q => absurd q ‹_›) fun q => q.2 ⟨rfl, ‹_›⟩) | lia | (simp; lia) | simp_all); (walk_at "gle"))
      · (repeat' (first | walk_at "st" | (with_reducible refine sp_d ?_ ?_ <;> intro _)))
        all_goals (refine ⟨?_, _, ?_, σ⟩; (first | exact iff_of_true rfl (.inl ⟨‹_›, ‹_›⟩) | exact iff_of_true rfl (.inr (.inl ⟨‹_›, ‹_›⟩)) | exact iff_of_true rfl (.inr (.inr ⟨‹_›, ‹_›⟩)) | exact iff_of_false Bool.false_ne_true (fun q => q.elim (fun q => by first | exact absurd q.1 ‹_› | exact absurd q.2 ‹_›) fun q => q.elim (fun q => by first | exact absurd q.1 ‹_› | exact absurd q.2 ‹_›) fun q => by first | exact absurd q.1 ‹_› | exact absurd q.2 ‹_›) | exact iff_of_true rfl (.inl ‹_›) | exact iff_of_true rfl (.inr ⟨‹_›, fun q => absurd q.1 Bool.false_ne_true⟩) | exact iff_of_true rfl (.inr ⟨‹_›, fun q => absurd q.2 ‹_›⟩) | exact iff_of_false Bool.false_ne_true (fun q => q.elim (fun q => absurd q ‹_›) fun q => absurd ‹_› q.1) | exact iff_of_false Bool.false_ne_true (fun q => q.elim (fun q => absurd q ‹_›) fun q => q.2 ⟨rfl, ‹_›⟩) | lia | (simp; lia) | simp_all); (walk_at "gle"))
    · intro s₃ g₃ hC le3 σ
      rw [behS_yes hC] at hbs
      obtain ⟨n', hn', rfl⟩ := Option.map_eq_some_iff.mp hbs
      refine sp_t ?_
      replace hal := hal.mono le3
      replace hpt := hpt.mono le3
      walk_at "W"
      refine e_type1 σ hG W.bv_int (by walk_at "in") ?_
      refine e_chain2 ?_
      (repeat' (first | walk_at "st" | (with_reducible refine sp_d ?_ ?_ <;> intro _)))
      all_goals
        refine k_intb σ ?_
        clear σ; intro _ _ σ
        walk_at "W"
        refine e_type1 σ hG W.bv_int (by walk_at "in") ?_
        walk_at "W"
        refine k_intb σ ?_
        clear σ; intro _ _ σ
        walk_at "W"
        have h1 : ((at1 : Int) + 1) = ((at1 + 1 : Nat) : Int) := by push_cast; rfl
        rw [h1] at σ
        refine ⟨n', by lia, at1 + 1, n', _, _, _, g₃, rfl, le.trans le3, by lia, ?_, σ⟩
        rw [hdr, ← hn']
        congr 1
        simp only [decide_eq_true_eq]
        repeat' split
        all_goals first | rfl | exact absurd ⟨‹2 ≤ c›, ‹c ≤ 4›⟩ ‹¬ (2 ≤ c ∧ c ≤ 4)› | exact absurd (‹2 ≤ c ∧ c ≤ 4›).1 ‹¬ 2 ≤ c› | exact absurd (‹2 ≤ c ∧ c ≤ 4›).2 ‹¬ c ≤ 4› | lia
    · intro s₃ g₃ hC le3 σ
      rw [behS_no hC] at hbs
      refine sp_f ?_
      walk_at "W"
      have h1 : M = 1 := by simpa using hbs.symm
      subst h1
      have := cont _ (by assumption) σ.ext
      rw [← hat] at this
      exact this
end
inductive Run : List (List Int) → List Int → List Int → List Int → List Int × List Int → Prop
  | done {st told pl} : Run [] st told pl (told, st)
  | get {i v r st told pl o} : 0 ≤ i → i < 2 ^ 62 → pl[i.toNat]? = some v → Run r (v :: st) told pl o → Run ([32, i] :: r) st told pl o
  | set {i v r st told pl o} : 0 ≤ i → i < 2 ^ 62 → i.toNat < pl.length → Run r st told (pl.set i.toNat v) o → Run ([33, i] :: r) (v :: st) told pl o
  | tee {i v r st told pl o} : 0 ≤ i → i < 2 ^ 62 → i.toNat < pl.length → Run r (v :: st) told (pl.set i.toNat v) o → Run ([34, i] :: r) (v :: st) told pl o
  | const {c r st told pl o} : Run r (c :: st) told pl o → Run ([65, c] :: r) st told pl o
  | add {a b r st told pl o} : Run r ((a + b) :: st) told pl o → Run ([106] :: r) (a :: b :: st) told pl o
  | drop {a r st told pl o} : Run r st told pl o → Run ([26] :: r) (a :: st) told pl o
  | call {a r st told pl o} : Run r st (told ++ [a]) pl o → Run ([16, 0] :: r) (a :: st) told pl o
  | els {n r st told pl o} : behS false r 0 = some n → Run (r.drop n) st told pl o → Run ([5] :: r) st told pl o
  | if0 {n r st told pl o} : behS true r 0 = some n → Run (r.drop n) st told pl o → Run ([4, -64] :: r) (0 :: st) told pl o
  | if1 {a r st told pl o} : a ≠ 0 → Run r st told pl o → Run ([4, -64] :: r) (a :: st) told pl o
  | pass {op r st told pl o} : op = [2, -64] ∨ op = [3, -64] ∨ op = [11] → Run r st told pl o → Run (op :: r) st told pl o
theorem behS_le : ∀ {e : Bool} {r : List (List Int)} {d : Int} {n : Nat}, behS e r d = some n → 1 ≤ n ∧ n ≤ r.length
  | _, [], _, _, h => by cases h
  | e, op :: r, d, n, h => by
    unfold behS at h
    split at h
    · obtain ⟨n', h', rfl⟩ := Option.map_eq_some_iff.mp h
      have := behS_le h'
      simp; lia
    · simp at h; subst h; simp
theorem drop_head {α : Type} {l : List α} {i : Nat} {a : α} {r : List α} (h : a :: r = l.drop i) : l[i]? = some a ∧ l.drop (i + 1) = r ∧ i < l.length := by
  have h' := h.symm
  refine ⟨?_, ?_, ?_⟩
  · have := congrArg (·[0]?) h'; simpa using this
  · rw [← List.drop_drop, h']; rfl
  · rcases Nat.lt_or_ge i l.length with q | q
    · exact q
    · rw [List.drop_eq_nil_of_le q] at h'; cases h'
section
variable {prog : Program} {w : World} {hb : Heap}
noncomputable def RunJ (hb : Heap) (s : Shared) (g : FH) (env : Env) (a pa : Addr) (ops : List (List Int)) (o : List Int × List Int) (c1 c2 : Addr) (M : Nat) (s' : Shared) : Prop :=
  ∃ (at1 : Nat) (st told pl : List Int) (v1 v2 : List Value) (ta : Tok) (x : Option Value) (g' : FH), M + at1 = ops.length ∧ GLe g g' ∧ Run (ops.drop at1) st told pl o ∧ IntsAre v1 st.reverse ∧ IntsAre v2 told ∧ v1.length ≤ at1 ∧ v2.length ≤ at1 ∧
    S hb s [pa] g env [n_body, n_places, n_stack, n_told, n_at, n_plain] [some (.ref a), some (.ref pa), some (.ref c1), some (.ref c2), some (.int at1 ta), x] [(c2, IsL v2), (c1, IsL v1), (pa, IsW pl)] g' s'

theorem run_c (W : Wld hb) {A : Around} {g : FH} {s : Shared} {R : Result → Shared → Prop} (room : Room 4 A) (hz : Frz hb g s) {a pa : Addr} {xs : List Value} {ops : List (List Int)} (ha : LG g a xs) (hv : OpsV g xs ops) (hok : OpsOk ops) (hlen : ops.length ≤ 6000)
    {pl0 : List Int} {o : List Int × List Int} (hp : ∃ o, s.heap.get? pa = some o ∧ IsW pl0 o) (hgp : g pa = none) (hrun : Run ops [] [] pl0 o)
    (cont : ∀ s' g' t a1 a2 v1 v2, Ext [pa] s s' → Grown g s g' s' → TG g' t [.ref a2, .ref a1] → LG g' a1 v1 → LG g' a2 v2 → IntsAre v1 o.2.reverse → IntsAre v2 o.1 → R (.ok (.ret (.ref t))) s') :
    codeAny (model prog w) A (.call (.ref 314) ⟨[.ref a, .ref pa], []⟩) R s := by
  refine start (led := [(pa, IsW pl0)]) [pa] [(n_body, .ref a), (n_places, .ref pa)] [n_stack, n_told, n_at, n_plain] [n_len, n_law_behind]
    (ns := [n_body, n_places, n_stack, n_told, n_at, n_plain]) (vs := [some (.ref a), some (.ref pa), none, none, none, none]) W.fn_wrun (room_depth room) hz (BindsTo.of_eq rfl) rfl rfl (by decide +kernel) (by simpa using hp) (by simp) (by simpa using hgp) ?_
  intro env E s₁ hG σ
  have R1 : Room 3 (A.deeper env) := room.deeper
  have hA : (A.deeper env).handled = none := room.1
  have hxl := hv.length
  have hsl : sizeLine = 16777216 := rfl
  (show wpAny _ _ (execs (_ :: _) _) _ _ _; dsimp only [qn_BLOCK, qn_DROP, qn_ELSE, qn_END, qn_FUNCTION, qn_Func, qn_IF, qn_LOCAL_GET, qn_LOCAL_SET, qn_LOCAL_TEE, qn_LOOP, qn_Module, qn_Piece, qn__name__, qn_law_behind, qn_law_flat, qn_law_is_kept_right, qn_law_items, qn_law_join, qn_law_joined, qn_law_kept, qn_law_next, qn_law_pick, qn_law_run, qn_law_two, qn_wall, qn_ahead, qn_at, qn_body, qn_body_of, qn_codes, qn_deep, qn_due, qn_first, qn_found, qn_func, qn_given, qn_height, qn_here, qn_index, qn_inner, qn_int, qn_is_else, qn_items, qn_join_last, qn_join_locals, qn_k, qn_kept, qn_kind, qn_len, qn_list, qn_local, qn_locals_now, qn_many, qn_module, qn_name, qn_number, qn_one, qn_opened, qn_other, qn_out, qn_own, qn_params, qn_part, qn_parts_of, qn_piece, qn_pieces, qn_pieces_of, qn_place, qn_places, qn_plain, qn_property, qn_put_pieces, qn_range, qn_read, qn_rest, qn_script, qn_second, qn_self, qn_sign, qn_sort, qn_stack, qn_state, qn_sum, qn_tape, qn_thing, qn_things, qn_told, qn_tuple, qn_turn, qn_two, qn_values, qn_way, qn_without_locals, qn_word])
  (refine' xs_swap3 σ ?k1 ?k2 ?k3 ?k4 ?k5 ?k6 ?k7 ?k8 ?k9 ?k10 ?k11 ?k12 ?k13 ?_ ?k14; (case k1 => walk_at "in"); (case k2 => walk_at "in"); (case k3 => walk_at "in"); (case k4 => decide); (case k5 => decide); (case k6 => decide); (case k7 => rfl); (case k8 => rfl); (case k9 => intro _ _ q; cases q); (case k10 => intro _ _ q; cases q); (case k11 => intro _ _ q; cases q); (case k12 => decide +kernel); (case k13 => decide +kernel); (case k14 => with_unfolding_all rfl))
  walk_at "W"
  refine xs_while (RunJ hb s g env a pa ops o _ _) (ops.length) ⟨0, [], [], pl0, [], [], _, _, _, rfl, (by walk_at "gle"), hrun, .nil, .nil, Nat.zero_le _, Nat.zero_le _, σ⟩ ?_
  clear σ
  rintro M s₂ E₂ TT hV ⟨at1, st, told, pl, v1, v2, tat, x, g', hM, le, hr, hv1, hv2, hl1, hl2, σ⟩
  have fin := fun m at1 st told pl v1 v2 tat x g' s' hm h1 h2 h3 h4 h5 h6 h7 σ => hV .next s' ⟨m, hm, at1, st, told, pl, v1, v2, tat, x, g', h1, h2, h3, h4, h5, h6, h7, σ⟩
  clear hV
  have hal := ha.mono le
  walk_at "W"
  refine e_bfun1 σ hG W.bv_len (by walk_at "in") ?_
  walk_at "W"
  refine k_len σ (σ.HLg hal) (sz (Nat.le_trans (Nat.le_of_eq hxl) hlen) rfl) ?_
  clear σ; intro tn s₃ σ
  walk_at "W"
  have hrd : ∀ op r, op :: r = ops.drop at1 → ∃ p c t tk q, xs[((at1 : Nat) : Int).toNat]? = some (.ref p) ∧ op = c :: t ∧ TG g' p (.int c tk :: q) ∧ IntsAre q t := by
    intro op r hop
    obtain ⟨h1, h2, h3⟩ := drop_head hop
    have hx1 : at1 < xs.length := Nat.lt_of_lt_of_le h3 (Nat.le_of_eq hxl.symm)
    obtain ⟨p, op', hp, ho', hpo⟩ := hv.get (List.getElem?_eq_getElem hx1)
    rw [h1] at ho'; cases ho'
    have hne := hok op (List.mem_of_getElem? h1)
    cases op with
    | nil => exact absurd rfl hne
    | cons c t =>
    obtain ⟨po, hpt, hpi⟩ := hpo
    cases hpi with | cons _ tk hpi =>
    exact ⟨p, c, t, tk, _, by rw [Int.toNat_natCast, List.getElem?_eq_getElem hx1, hp], rfl, hpt.mono le, hpi⟩
  generalize hsuf : ops.drop at1 = suf at hr hrd
  cases suf with
  | nil =>
    cases hr
    have : ops.length ≤ at1 := by
      rcases Nat.lt_or_ge at1 ops.length with q | q
      · rw [List.drop_eq_getElem_cons q] at hsuf; cases hsuf
      · exact q
    refine sp_cf ?_ (by lia)
    walk_at "W"
    obtain ⟨g₃, le3, hlg3, σ⟩ := σ.frzL (.refl _) (by assumption)
    obtain ⟨g₄, le4, hlg4, σ⟩ := σ.frzL (.refl _) (by assumption)
    exact cont _ _ _ _ _ _ _ σ.ext σ.grownOf (htg.mono (le3.trans le4)) hlg4 (hlg3.mono le4) hv1 hv2
  | cons op r =>
    obtain ⟨h1, h2, h3⟩ := drop_head hsuf.symm
    obtain ⟨p, c, t, tk, q, hxs, he, hpt, hpi⟩ := hrd _ _ rfl
    subst he
    clear hrd hsuf
    obtain ⟨f1, f2⟩ := rcA hM h3
    have hsA : at1 ≤ sizeLine := sz (Nat.le_trans (Nat.le_of_lt h3) hlen) rfl
    refine sp_ct ?_ (Int.ofNat_lt.2 (Nat.lt_of_lt_of_le h3 (Nat.le_of_eq hxl.symm)))
    walk_at "W"
    (refine' xs_swap2 σ ?k1 ?k2 ?k3 ?k4 ?k5 ?k6 ?k7 ?k8 ?_ ?k9; (case k1 => walk_at "in"); (case k2 => walk_at "in"); (case k3 => decide); (case k4 => rfl); (case k5 => intro _ _ q; cases q); (case k6 => intro _ _ q; cases q); (case k7 => decide +kernel); (case k8 => decide +kernel); (case k9 => with_unfolding_all rfl))
    walk_at "W"
    have e1 : ((at1 : Int) + 1) = ((at1 + 1 : Nat) : Int) := by push_cast; rfl
    rw [e1] at σ
    replace hpt := hpt.mono hgg
    replace hal := hal.mono hgg
    cases hr with
    | @get i v _ _ _ _ _ h0 hfit hi hr =>
      cases hpi with | cons _ tki hpi =>
      cases hpi
      (repeat (first | (with_reducible first | (refine' if_c0f σ ?k1 ?k2 ?k3 ?_; (case k1 => walk_at "at"); (case k2 => assumption); (case k3 => first | decide | exact no3 hc (by decide) | lia); clear σ; intro _ σ) | (refine' if_c0t σ ?k1 ?k2 ?k3 ?_; (case k1 => walk_at "at"); (case k2 => assumption); (case k3 => first | rfl | lia); clear σ; intro _ σ)) | walk_at "st"))
      refine m_append ?_
      walk_at "W"
      refine k_app1 (σ.HL (.tail .head)) ?_
      walk_at "W"
      refine S.ixW σ (.tail (.tail .head)) h0 (p63 hfit) hi fun tv => ?_
      refine k_app2 σ (.tail .head) (Nat.le_trans hl1 hsA) ?_
      clear σ; intro s₅ σ
      walk_at "W"
      refine fin (M - 1) (at1 + 1) _ _ _ _ _ _ _ _ _ f1 f2 ?_ (by rw [h2]; exact hr) (by rw [List.reverse_cons]; exact ints_snoc hv1 _ _) hv2 (by (simp; exact hl1)) (Nat.le_succ_of_le hl2) σ
      walk_at "gle"
    | @set i v _ st _ _ _ h0 hfit hi hr =>
      cases hpi with | cons _ tki hpi =>
      cases hpi
      (repeat (first | (with_reducible first | (refine' if_c0f σ ?k1 ?k2 ?k3 ?_; (case k1 => walk_at "at"); (case k2 => assumption); (case k3 => first | decide | exact no3 hc (by decide) | lia); clear σ; intro _ σ) | (refine' if_c0t σ ?k1 ?k2 ?k3 ?_; (case k1 => walk_at "at"); (case k2 => assumption); (case k3 => first | rfl | lia); clear σ; intro _ σ)) | walk_at "st"))
      rw [List.reverse_cons] at hv1
      obtain ⟨l', tv, rfl, hv1n⟩ := ints_snoc_inv hv1
      simp only [List.length_append, List.length_cons, List.length_nil] at hl1
      refine m_pop ?_
      walk_at "W"
      refine k_pop σ (.tail .head) (Nat.lt_of_lt_of_le hl1 hsA) ?_
      clear σ; intro s₅ σ
      walk_at "W"
      refine S.stW σ (.tail (.tail .head)) h0 (p63 hfit) hi ?_
      clear σ; intro s₆ σ
      walk_at "W"
      refine fin (M - 1) (at1 + 1) _ _ _ _ _ _ _ _ _ f1 f2 ?_ (by rw [h2]; exact hr) hv1n hv2 (Nat.le_succ_of_le (Nat.le_of_succ_le hl1)) (Nat.le_succ_of_le hl2) σ
      walk_at "gle"
    | @tee i v _ st _ _ _ h0 hfit hi hr =>
      cases hpi with | cons _ tki hpi =>
      cases hpi
      (repeat (first | (with_reducible first | (refine' if_c0f σ ?k1 ?k2 ?k3 ?_; (case k1 => walk_at "at"); (case k2 => assumption); (case k3 => first | decide | exact no3 hc (by decide) | lia); clear σ; intro _ σ) | (refine' if_c0t σ ?k1 ?k2 ?k3 ?_; (case k1 => walk_at "at"); (case k2 => assumption); (case k3 => first | rfl | lia); clear σ; intro _ σ)) | walk_at "st"))
      have hv1' := hv1
      rw [List.reverse_cons] at hv1'
      obtain ⟨l', tv, rfl, _⟩ := ints_snoc_inv hv1'
      simp only [List.length_append, List.length_cons, List.length_nil] at hl1
      refine ix_list_neg (σ.HL (.tail .head)) (by decide) (by simp; lia) (by decide) (x := .int v tv) (by rw [neg1L]; simp) ?_
      walk_at "W"
      refine S.stW σ (.tail (.tail .head)) h0 (p63 hfit) hi ?_
      clear σ; intro s₆ σ
      walk_at "W"
      refine fin (M - 1) (at1 + 1) _ _ _ _ _ _ _ _ _ f1 f2 ?_ (by rw [h2]; exact hr) hv1 hv2 (by (simp; exact Nat.le_of_succ_le hl1)) (Nat.le_succ_of_le hl2) σ
      walk_at "gle"
    | @const i _ _ _ _ _ hr =>
      cases hpi with | cons _ tki hpi =>
      cases hpi
      (repeat (first | (with_reducible first | (refine' if_c0f σ ?k1 ?k2 ?k3 ?_; (case k1 => walk_at "at"); (case k2 => assumption); (case k3 => first | decide | exact no3 hc (by decide) | lia); clear σ; intro _ σ) | (refine' if_c0t σ ?k1 ?k2 ?k3 ?_; (case k1 => walk_at "at"); (case k2 => assumption); (case k3 => first | rfl | lia); clear σ; intro _ σ)) | walk_at "st"))
      refine m_append ?_
      walk_at "W"
      refine k_app1 (σ.HL (.tail .head)) ?_
      walk_at "W"
      refine k_app2 σ (.tail .head) (Nat.le_trans hl1 hsA) ?_
      clear σ; intro s₅ σ
      walk_at "W"
      refine fin (M - 1) (at1 + 1) _ _ _ _ _ _ _ _ _ f1 f2 ?_ (by rw [h2]; exact hr) (by rw [List.reverse_cons]; exact ints_snoc hv1 _ _) hv2 (by (simp; exact hl1)) (Nat.le_succ_of_le hl2) σ
      walk_at "gle"
    | @add x1 x2 _ st _ _ _ hr =>
      cases hpi
      (repeat (first | (with_reducible first | (refine' if_c0f σ ?k1 ?k2 ?k3 ?_; (case k1 => walk_at "at"); (case k2 => assumption); (case k3 => first | decide | exact no3 hc (by decide) | lia); clear σ; intro _ σ) | (refine' if_c0t σ ?k1 ?k2 ?k3 ?_; (case k1 => walk_at "at"); (case k2 => assumption); (case k3 => first | rfl | lia); clear σ; intro _ σ)) | walk_at "st"))
      rw [List.reverse_cons, List.reverse_cons] at hv1
      obtain ⟨l', ta1, rfl, hv1m⟩ := ints_snoc_inv hv1
      obtain ⟨l'', tb1, rfl, hv1n⟩ := ints_snoc_inv hv1m
      simp only [List.length_append, List.length_cons, List.length_nil] at hl1
      refine m_append ?_
      walk_at "W"
      refine k_app1 (σ.HL (.tail .head)) ?_
      walk_at "W"
      refine m_pop ?_
      walk_at "W"
      refine k_pop σ (.tail .head) (by simp; exact Nat.lt_of_lt_of_le hl1 hsA) ?_
      clear σ; intro s₅ σ
      refine m_pop ?_
      walk_at "W"
      refine k_pop σ (.tail .head) (Nat.lt_of_lt_of_le (Nat.lt_of_succ_lt hl1) hsA) ?_
      clear σ; intro s₅ σ
      walk_at "W"
      refine k_app2 σ (.tail .head) (Nat.le_of_lt (Nat.lt_of_lt_of_le (Nat.lt_of_succ_lt hl1) hsA)) ?_
      clear σ; intro s₅ σ
      walk_at "W"
      refine fin (M - 1) (at1 + 1) _ _ _ _ _ _ _ _ _ f1 f2 ?_ (by rw [h2]; exact hr) (by rw [List.reverse_cons]; exact ints_snoc hv1n _ _) hv2 (by (simp; exact Nat.le_of_succ_le (Nat.le_of_succ_le hl1))) (Nat.le_succ_of_le hl2) σ
      walk_at "gle"
    | @drop x1 _ st _ _ _ hr =>
      cases hpi
      (repeat (first | (with_reducible first | (refine' if_c0f σ ?k1 ?k2 ?k3 ?_; (case k1 => walk_at "at"); (case k2 => assumption); (case k3 => first | decide | exact no3 hc (by decide) | lia); clear σ; intro _ σ) | (refine' if_c0t σ ?k1 ?k2 ?k3 ?_; (case k1 => walk_at "at"); (case k2 => assumption); (case k3 => first | rfl | lia); clear σ; intro _ σ)) | walk_at "st"))
      rw [List.reverse_cons] at hv1
      obtain ⟨l', tv, rfl, hv1n⟩ := ints_snoc_inv hv1
      simp only [List.length_append, List.length_cons, List.length_nil] at hl1
      refine m_pop ?_
      walk_at "W"
      refine k_pop σ (.tail .head) (Nat.lt_of_lt_of_le hl1 hsA) ?_
      clear σ; intro s₅ σ
      walk_at "W"
      refine fin (M - 1) (at1 + 1) _ _ _ _ _ _ _ _ _ f1 f2 ?_ (by rw [h2]; exact hr) hv1n hv2 (Nat.le_succ_of_le (Nat.le_of_succ_le hl1)) (Nat.le_succ_of_le hl2) σ
      walk_at "gle"
    | @call x1 _ st _ _ _ hr =>
      cases hpi with | cons _ tki hpi =>
      cases hpi
      (repeat (first | (with_reducible first | (refine' if_c0f σ ?k1 ?k2 ?k3 ?_; (case k1 => walk_at "at"); (case k2 => assumption); (case k3 => first | decide | exact no3 hc (by decide) | lia); clear σ; intro _ σ) | (refine' if_c0t σ ?k1 ?k2 ?k3 ?_; (case k1 => walk_at "at"); (case k2 => assumption); (case k3 => first | rfl | lia); clear σ; intro _ σ)) | walk_at "st"))
      rw [List.reverse_cons] at hv1
      obtain ⟨l', tv, rfl, hv1n⟩ := ints_snoc_inv hv1
      simp only [List.length_append, List.length_cons, List.length_nil] at hl1
      refine m_append ?_
      walk_at "W"
      refine k_app1 (σ.HL .head) ?_
      refine m_pop ?_
      walk_at "W"
      refine k_pop σ (.tail .head) (Nat.lt_of_lt_of_le hl1 hsA) ?_
      clear σ; intro s₅ σ
      refine k_app2 σ .head (Nat.le_trans hl2 hsA) ?_
      clear σ; intro s₅ σ
      walk_at "W"
      refine fin (M - 1) (at1 + 1) _ _ _ _ _ _ _ _ _ f1 f2 ?_ (by rw [h2]; exact hr) hv1n (ints_snoc hv2 _ _) (Nat.le_succ_of_le (Nat.le_of_succ_le hl1)) (by (simp; exact hl2)) σ
      walk_at "gle"
    | @els n _ _ _ _ _ hbn hr =>
      cases hpi
      (repeat (first | (with_reducible first | (refine' if_c0f σ ?k1 ?k2 ?k3 ?_; (case k1 => walk_at "at"); (case k2 => assumption); (case k3 => first | decide | exact no3 hc (by decide) | lia); clear σ; intro _ σ) | (refine' if_c0t σ ?k1 ?k2 ?k3 ?_; (case k1 => walk_at "at"); (case k2 => assumption); (case k3 => first | rfl | lia); clear σ; intro _ σ)) | walk_at "st"))
      refine xs_if ?_
      walk_at "W"
      have hbl := behS_le hbn
      have hrl : r.length = ops.length - (at1 + 1) := by rw [← h2]; simp
      refine e_call σ hG W.gv_wbehind W.fn_wbehind (by walk_at "in") ?_
      walk_at "W"
      refine ⟨σ.hbs, w_call (behind_c W R1.le σ.fz hal (hv.mono (by walk_at "gle")) hok hlen (at0 := at1 + 1) (by rw [h2]; exact hbn) fun s₅ tn5 x => rv ?_)⟩
      replace σ := σ.grow x
      walk_at "W"
      refine fin (M - 1 - n) (at1 + 1 + n) _ _ _ _ _ _ _ _ _ (rcB hM h3 hbl hrl).1 (rcB hM h3 hbl hrl).2 ?_ (by rw [← List.drop_drop, h2]; exact hr) hv1 hv2 (Nat.le_trans (Nat.le_succ_of_le hl1) (Nat.le_add_right _ n)) (Nat.le_trans (Nat.le_succ_of_le hl2) (Nat.le_add_right _ n)) σ
      walk_at "gle"
    | @if0 n _ st _ _ _ hbn hr =>
      cases hpi with | cons _ tki hpi =>
      cases hpi
      (repeat (first | (with_reducible first | (refine' if_c0f σ ?k1 ?k2 ?k3 ?_; (case k1 => walk_at "at"); (case k2 => assumption); (case k3 => first | decide | exact no3 hc (by decide) | lia); clear σ; intro _ σ) | (refine' if_c0t σ ?k1 ?k2 ?k3 ?_; (case k1 => walk_at "at"); (case k2 => assumption); (case k3 => first | rfl | lia); clear σ; intro _ σ)) | walk_at "st"))
      refine xs_if ?_
      walk_at "W"
      rw [List.reverse_cons] at hv1
      obtain ⟨l', tv, rfl, hv1n⟩ := ints_snoc_inv hv1
      simp only [List.length_append, List.length_cons, List.length_nil] at hl1
      refine m_pop ?_
      walk_at "W"
      refine k_pop σ (.tail .head) (Nat.lt_of_lt_of_le hl1 hsA) ?_
      clear σ; intro s₅ σ
      walk_at "W"
      have hbl := behS_le hbn
      have hrl : r.length = ops.length - (at1 + 1) := by rw [← h2]; simp
      refine e_call σ hG W.gv_wbehind W.fn_wbehind (by walk_at "in") ?_
      walk_at "W"
      refine ⟨σ.hbs, w_call (behind_c W R1.le σ.fz hal (hv.mono (by walk_at "gle")) hok hlen (at0 := at1 + 1) (by rw [h2]; exact hbn) fun s₅ tn5 x => rv ?_)⟩
      replace σ := σ.grow x
      walk_at "W"
      refine fin (M - 1 - n) (at1 + 1 + n) _ _ _ _ _ _ _ _ _ (rcB hM h3 hbl hrl).1 (rcB hM h3 hbl hrl).2 ?_ (by rw [← List.drop_drop, h2]; exact hr) hv1n hv2 (Nat.le_trans (Nat.le_succ_of_le (Nat.le_of_succ_le hl1)) (Nat.le_add_right _ n)) (Nat.le_trans (Nat.le_succ_of_le hl2) (Nat.le_add_right _ n)) σ
      walk_at "gle"
    | @if1 x1 _ st _ _ _ hne hr =>
      cases hpi with | cons _ tki hpi =>
      cases hpi
      (repeat (first | (with_reducible first | (refine' if_c0f σ ?k1 ?k2 ?k3 ?_; (case k1 => walk_at "at"); (case k2 => assumption); (case k3 => first | decide | exact no3 hc (by decide) | lia); clear σ; intro _ σ) | (refine' if_c0t σ ?k1 ?k2 ?k3 ?_; (case k1 => walk_at "at"); (case k2 => assumption); (case k3 => first | rfl | lia); clear σ; intro _ σ)) | walk_at "st"))
      refine xs_if ?_
      walk_at "W"
      rw [List.reverse_cons] at hv1
      obtain ⟨l', tv, rfl, hv1n⟩ := ints_snoc_inv hv1
      simp only [List.length_append, List.length_cons, List.length_nil] at hl1
      refine m_pop ?_
      walk_at "W"
      refine k_pop σ (.tail .head) (Nat.lt_of_lt_of_le hl1 hsA) ?_
      clear σ; intro s₅ σ
      walk_at "W"
      refine sp_cf ?_ hne
      walk_at "W"
      refine fin (M - 1) (at1 + 1) _ _ _ _ _ _ _ _ _ f1 f2 ?_ (by rw [h2]; exact hr) hv1n hv2 (Nat.le_succ_of_le (Nat.le_of_succ_le hl1)) (Nat.le_succ_of_le hl2) σ
      walk_at "gle"
    | pass hop hr =>
      have hr' := hr
      clear hr
      have hc : c = 2 ∨ c = 3 ∨ c = 11 := by rcases hop with h | h | h <;> (injection h; lia)
      clear hop
      (repeat (first | (with_reducible first | (refine' if_c0f σ ?k1 ?k2 ?k3 ?_; (case k1 => walk_at "at"); (case k2 => assumption); (case k3 => first | decide | exact no3 hc (by decide) | lia); clear σ; intro _ σ) | (refine' if_c0t σ ?k1 ?k2 ?k3 ?_; (case k1 => walk_at "at"); (case k2 => assumption); (case k3 => first | rfl | lia); clear σ; intro _ σ)) | walk_at "st"))
      refine xs_if ?_
      walk_at "W"
      refine sp_cf ?_ (by lia)
      walk_at "W"
      refine sp_cf ?_ (by lia)
      walk_at "W"
      refine fin (M - 1) (at1 + 1) _ _ _ _ _ _ _ _ _ f1 f2 ?_ (by rw [h2]; exact hr') hv1 hv2 (Nat.le_succ_of_le hl1) (Nat.le_succ_of_le hl2) σ
      walk_at "gle"
end
theorem beh_pass {e : Bool} {op : List Int} {c : Int} {t : List Int} {r : List (List Int)} {d d' : Int} (he : op = c :: t) (h : 0 < d ∨ (c ≠ 11 ∧ ¬ (e = true ∧ c = 5))) (hd : d + (if 2 ≤ c ∧ c ≤ 4 then 1 else 0) - (if c = 11 then 1 else 0) = d') :
    behS e (op :: r) d = (behS e r d').map (· + 1) := by
  subst he; rw [behS_yes h, hd]
mutual
theorem behN {m : Int} {e : Bool} : ∀ (n : Node) (r : List (List Int)) (d : Int), GoodN m n → 0 ≤ d → behS e (flatN n ++ r) d = (behS e r d).map (· + (flatN n).length)
  | .leaf op, r, d, h, h0 => by
    have : ∃ c t, op = c :: t ∧ ¬ (2 ≤ c ∧ c ≤ 4) ∧ c ≠ 5 ∧ c ≠ 11 := by
      rcases h with ⟨c, i, rfl, h1, h2, _, _⟩ | ⟨c, rfl⟩ | rfl | rfl | rfl
      · exact ⟨_, _, rfl, by lia, by lia, by lia⟩
      all_goals exact ⟨_, _, rfl, by decide, by decide, by decide⟩
    obtain ⟨c, t, e1, h1, h2, h3⟩ := this
    show behS e (op :: r) d = _
    rw [beh_pass (d' := d) e1 (.inr ⟨h3, fun q => h2 q.2⟩) (by rw [if_neg h1, if_neg h3]; lia)]
    rfl
  | .one op l, r, d, h, h0 => by
    have : ∃ c t, op = c :: t ∧ (2 ≤ c ∧ c ≤ 4) := by rcases h.1 with rfl | rfl | rfl <;> exact ⟨_, _, rfl, by decide⟩
    obtain ⟨c, t, e1, h1⟩ := this
    show behS e (op :: ((flatL l ++ [[11]]) ++ r)) d = _
    rw [beh_pass (d' := d + 1) e1 (.inr ⟨by lia, fun q => by lia⟩) (by rw [if_pos h1, if_neg (by lia)]; lia), List.append_assoc, behL l _ _ h.2 (by lia)]
    show ((behS e ([11] :: r) (d + 1)).map _).map _ = _
    rw [beh_pass (d' := d) rfl (.inl (by lia)) (by rw [if_neg (by lia), if_pos rfl]; lia)]
    simp only [Option.map_map, flatN, List.length_cons, List.length_append, List.length_nil]
    congr 1; funext x; simp; lia
  | .two op l k, r, d, h, h0 => by
    have : ∃ c t, op = c :: t ∧ (2 ≤ c ∧ c ≤ 4) := by rw [h.1]; exact ⟨_, _, rfl, by decide⟩
    obtain ⟨c, t, e1, h1⟩ := this
    show behS e (op :: ((flatL l ++ [5] :: (flatL k ++ [[11]])) ++ r)) d = _
    rw [beh_pass (d' := d + 1) e1 (.inr ⟨by lia, fun q => by lia⟩) (by rw [if_pos h1, if_neg (by lia)]; lia), List.append_assoc, behL l _ _ h.2.1 (by lia)]
    show ((behS e ([5] :: ((flatL k ++ [[11]]) ++ r)) (d + 1)).map _).map _ = _
    rw [beh_pass (d' := d + 1) rfl (.inl (by lia)) (by rw [if_neg (by lia), if_neg (by lia)]; lia), List.append_assoc, behL k _ _ h.2.2 (by lia)]
    show ((((behS e ([11] :: r) (d + 1)).map _).map _).map _).map _ = _
    rw [beh_pass (d' := d) rfl (.inl (by lia)) (by rw [if_neg (by lia), if_pos rfl]; lia)]
    simp only [Option.map_map, flatN, List.length_cons, List.length_append, List.length_nil]
    congr 1; funext x; simp; lia
theorem behL {m : Int} {e : Bool} : ∀ (l : List Node) (r : List (List Int)) (d : Int), GoodL m l → 0 ≤ d → behS e (flatL l ++ r) d = (behS e r d).map (· + (flatL l).length)
  | [], r, d, _, _ => by simp [flatL]
  | n :: l, r, d, h, h0 => by
    rw [flatL, List.append_assoc, behN n _ _ h.1 h0, behL l _ _ h.2 h0]
    simp only [Option.map_map, List.length_append]
    congr 1; funext x; simp; lia
end
theorem beh_end {m : Int} {e : Bool} {l : List Node} {r : List (List Int)} (h : GoodL m l) : behS e (flatL l ++ [11] :: r) 0 = some ((flatL l).length + 1) := by
  rw [behL l _ _ h (by decide), behS_no (by simp)]; simp; lia
theorem beh_else {m : Int} {l : List Node} {r : List (List Int)} (h : GoodL m l) : behS true (flatL l ++ [5] :: r) 0 = some ((flatL l).length + 1) := by
  rw [behL l _ _ h (by decide), behS_no (by simp)]; simp; lia
theorem drop_past {α : Type} (l : List α) (a : α) (r : List α) : (l ++ a :: r).drop (l.length + 1) = r := by
  induction l with
  | nil => rfl
  | cons x l ih => simp
structure St where
  st : List Int
  told : List Int
  pl : List Int
noncomputable def St.pop (s : St) : St := { s with st := s.st.tail }
noncomputable def evOp : List Int → St → St
  | [c, i], s => if c = 32 then { s with st := s.pl.getD i.toNat 0 :: s.st } else if c = 33 then { s with st := s.st.tail, pl := s.pl.set i.toNat (s.st.headD 0) }
      else if c = 34 then { s with pl := s.pl.set i.toNat (s.st.headD 0) } else if c = 65 then { s with st := i :: s.st } else { s with st := s.st.tail, told := s.told ++ [s.st.headD 0] }
  | [c], s => if c = 106 then { s with st := (s.st.headD 0 + s.st.tail.headD 0) :: s.st.tail.tail } else { s with st := s.st.tail }
  | _, s => s
mutual
noncomputable def evN : Node → St → St
  | .leaf op, s => evOp op s
  | .one op l, s => if op.headD 0 = 4 then (if s.st.headD 0 = 0 then s.pop else evL l s.pop) else evL l s
  | .two _ l k, s => if s.st.headD 0 = 0 then evL k s.pop else evL l s.pop
noncomputable def evL : List Node → St → St
  | [], s => s
  | n :: r, s => evL r (evN n s)
end
theorem evL_cons (n : Node) (r : List Node) (s : St) : evL (n :: r) s = evL r (evN n s) := by rw [evL]
theorem evL_append : ∀ (l k : List Node) (s : St), evL (l ++ k) s = evL k (evL l s)
  | [], k, s => by rw [List.nil_append, evL]
  | n :: l, k, s => by rw [List.cons_append, evL_cons, evL_cons, evL_append l k]
theorem evN_leaf (op : List Int) (s : St) : evN (.leaf op) s = evOp op s := by rw [evN]
theorem ev_get (i : Int) (st told pl : List Int) : evN (.leaf [32, i]) ⟨st, told, pl⟩ = ⟨pl.getD i.toNat 0 :: st, told, pl⟩ := by rw [evN]; rfl
theorem ev_set (i v : Int) (st told pl : List Int) : evN (.leaf [33, i]) ⟨v :: st, told, pl⟩ = ⟨st, told, pl.set i.toNat v⟩ := by rw [evN]; rfl
theorem ev_tee (i v : Int) (st told pl : List Int) : evN (.leaf [34, i]) ⟨v :: st, told, pl⟩ = ⟨v :: st, told, pl.set i.toNat v⟩ := by rw [evN]; rfl
theorem ev_const (c : Int) (st told pl : List Int) : evN (.leaf [65, c]) ⟨st, told, pl⟩ = ⟨c :: st, told, pl⟩ := by rw [evN]; rfl
theorem ev_add (a b : Int) (st told pl : List Int) : evN (.leaf [106]) ⟨a :: b :: st, told, pl⟩ = ⟨(a + b) :: st, told, pl⟩ := by rw [evN]; rfl
theorem ev_call (a : Int) (st told pl : List Int) : evN (.leaf [16, 0]) ⟨a :: st, told, pl⟩ = ⟨st, told ++ [a], pl⟩ := by rw [evN]; rfl
theorem ev_drop (a : Int) (st told pl : List Int) : evN (.leaf [26]) ⟨a :: st, told, pl⟩ = ⟨st, told, pl⟩ := by rw [evN]; rfl
theorem ev_block {c : Int} (hc : c = 2 ∨ c = 3) (l : List Node) (s : St) : evN (.one [c, -64] l) s = evL l s := by
  rw [evN, if_neg (by show ¬ c = 4; lia)]
theorem ev_if1 (l : List Node) (a : Int) (st told pl : List Int) : evN (.one [4, -64] l) ⟨a :: st, told, pl⟩ = if a = 0 then ⟨st, told, pl⟩ else evL l ⟨st, told, pl⟩ := by rw [evN]; rfl
theorem ev_if2 (l k : List Node) (a : Int) (st told pl : List Int) : evN (.two [4, -64] l k) ⟨a :: st, told, pl⟩ = if a = 0 then evL k ⟨st, told, pl⟩ else evL l ⟨st, told, pl⟩ := by rw [evN]; rfl
theorem cons_of {st : List Int} {h : Nat} (hh : h + 1 ≤ st.length) : ∃ v st', st = v :: st' ∧ h ≤ st'.length := by
  cases st with
  | nil => simp at hh
  | cons v st' => exact ⟨v, st', rfl, by simpa using hh⟩
theorem runL0 {m : Int} (hm : m ≤ 2 ^ 62) {l : List Node} {h k : Nat} (x : WF m l h k) : ∀ (st told pl : List Int) (s1 : St), evL l ⟨st, told, pl⟩ = s1 → (pl.length : Int) = m → h ≤ st.length →
    (s1.pl.length : Int) = m ∧ s1.st.length + h = st.length + k ∧ ∀ rest o, Run rest s1.st s1.told s1.pl o → Run (flatL l ++ rest) st told pl o := by
  induction x with
  | nil => intro st told pl s1 e1 hp hh; rw [evL] at e1; subst e1; exact ⟨hp, rfl, fun rest o r => by rw [flatL]; exact r⟩
  | @get i r h k i0 i1 _ ih =>
    intro st told pl s1 e1 hp hh
    rw [evL_cons, ev_get] at e1
    obtain ⟨a, b, c⟩ := ih _ _ _ _ e1 hp (by rw [List.length_cons]; lia)
    rw [List.length_cons] at b
    exact ⟨a, by lia, fun rest o r => .get i0 (Int.lt_of_lt_of_le i1 hm) (by rw [List.getD_eq_getElem?_getD, List.getElem?_eq_getElem (tn_lt hp i0 i1)]; rfl) (c rest o r)⟩
  | @set i r h k i0 i1 _ ih =>
    intro st told pl s1 e1 hp hh
    obtain ⟨v, st, rfl, hh2⟩ := cons_of hh
    rw [evL_cons, ev_set] at e1
    obtain ⟨a, b, c⟩ := ih _ _ _ _ e1 (by rw [List.length_set]; exact hp) hh2
    rw [List.length_cons]
    exact ⟨a, by lia, fun rest o r => .set i0 (Int.lt_of_lt_of_le i1 hm) (tn_lt hp i0 i1) (c rest o r)⟩
  | @tee i r h k i0 i1 _ ih =>
    intro st told pl s1 e1 hp hh
    obtain ⟨v, st, rfl, hh'⟩ := cons_of hh
    rw [evL_cons, ev_tee] at e1
    obtain ⟨a, b, c⟩ := ih _ _ _ _ e1 (by rw [List.length_set]; exact hp) hh
    exact ⟨a, b, fun rest o r => .tee i0 (Int.lt_of_lt_of_le i1 hm) (tn_lt hp i0 i1) (c rest o r)⟩
  | @const c r h k _ ih =>
    intro st told pl s1 e1 hp hh
    rw [evL_cons, ev_const] at e1
    obtain ⟨a, b, d⟩ := ih _ _ _ _ e1 hp (by rw [List.length_cons]; lia)
    rw [List.length_cons] at b
    exact ⟨a, by lia, fun rest o r => .const (d rest o r)⟩
  | @add r h k _ ih =>
    intro st told pl s1 e1 hp hh
    obtain ⟨u, st, rfl, hh2⟩ := cons_of hh
    obtain ⟨v, st, rfl, hh3⟩ := cons_of hh2
    rw [evL_cons, ev_add] at e1
    obtain ⟨a, b, d⟩ := ih _ _ _ _ e1 hp (by rw [List.length_cons]; lia)
    simp only [List.length_cons] at b ⊢
    exact ⟨a, by lia, fun rest o r => .add (d rest o r)⟩
  | @call r h k _ ih =>
    intro st told pl s1 e1 hp hh
    obtain ⟨u, st, rfl, hh2⟩ := cons_of hh
    rw [evL_cons, ev_call] at e1
    obtain ⟨a, b, d⟩ := ih _ _ _ _ e1 hp hh2
    rw [List.length_cons]
    exact ⟨a, by lia, fun rest o r => .call (d rest o r)⟩
  | @drop r h k _ ih =>
    intro st told pl s1 e1 hp hh
    obtain ⟨u, st, rfl, hh2⟩ := cons_of hh
    rw [evL_cons, ev_drop] at e1
    obtain ⟨a, b, d⟩ := ih _ _ _ _ e1 hp hh2
    rw [List.length_cons]
    exact ⟨a, by lia, fun rest o r => .drop (d rest o r)⟩
  | @block c l r h k hc hl _ ihl ihr =>
    intro st told pl s1 e1 hp hh
    rw [evL_cons, ev_block hc] at e1
    obtain ⟨a, b, d⟩ := ihl st told pl _ rfl hp (Nat.zero_le _)
    generalize evL l ⟨st, told, pl⟩ = s' at a b d e1
    obtain ⟨st', told', pl'⟩ := s'
    obtain ⟨a', b', d'⟩ := ihr st' told' pl' _ e1 a (by simp only at b; lia)
    refine ⟨a', by simp only at b; lia, fun rest o q => ?_⟩
    have e : flatL (.one [c, -64] l :: r) ++ rest = [c, -64] :: (flatL l ++ [11] :: (flatL r ++ rest)) := by simp [flatL, flatN]
    rw [e]
    exact .pass (by rcases hc with rfl | rfl <;> simp) (d _ o (.pass (.inr (.inr rfl)) (d' rest o q)))
  | @if1 l r h k hl _ ihl ihr =>
    intro st told pl s1 e1 hp hh
    obtain ⟨u, st, rfl, hh2⟩ := cons_of hh
    have hg := hl.good
    rw [evL_cons, ev_if1] at e1
    rw [List.length_cons]
    have e : ∀ rest, flatL (.one [4, -64] l :: r) ++ rest = [4, -64] :: (flatL l ++ [11] :: (flatL r ++ rest)) := by intro rest; simp [flatL, flatN]
    by_cases hu : u = 0
    · rw [if_pos hu] at e1
      obtain ⟨a', b', d'⟩ := ihr st told pl _ e1 hp hh2
      refine ⟨a', by lia, fun rest o q => ?_⟩
      rw [e, hu]
      exact .if0 (beh_end hg) (by rw [drop_past]; exact d' rest o q)
    · rw [if_neg hu] at e1
      obtain ⟨a, b, d⟩ := ihl st told pl _ rfl hp (Nat.zero_le _)
      generalize evL l ⟨st, told, pl⟩ = s' at a b d e1
      obtain ⟨st', told', pl'⟩ := s'
      obtain ⟨a', b', d'⟩ := ihr st' told' pl' _ e1 a (by simp only at b; lia)
      refine ⟨a', by simp only at b; lia, fun rest o q => ?_⟩
      rw [e]
      exact .if1 hu (d _ o (.pass (.inr (.inr rfl)) (d' rest o q)))
  | @if2 l k' r h k hl hk _ ihl ihk ihr =>
    intro st told pl s1 e1 hp hh
    obtain ⟨u, st, rfl, hh2⟩ := cons_of hh
    have hg := hl.good
    have hgk := hk.good
    rw [evL_cons, ev_if2] at e1
    rw [List.length_cons]
    have e : ∀ rest, flatL (.two [4, -64] l k' :: r) ++ rest = [4, -64] :: (flatL l ++ [5] :: (flatL k' ++ [11] :: (flatL r ++ rest))) := by intro rest; simp [flatL, flatN]
    by_cases hu : u = 0
    · rw [if_pos hu] at e1
      obtain ⟨a, b, d⟩ := ihk st told pl _ rfl hp (Nat.zero_le _)
      generalize evL k' ⟨st, told, pl⟩ = s' at a b d e1
      obtain ⟨st', told', pl'⟩ := s'
      obtain ⟨a', b', d'⟩ := ihr st' told' pl' _ e1 a (by simp only at b; lia)
      refine ⟨a', by simp only at b; lia, fun rest o q => ?_⟩
      rw [e, hu]
      exact .if0 (beh_else hg) (by rw [drop_past]; exact d _ o (.pass (.inr (.inr rfl)) (d' rest o q)))
    · rw [if_neg hu] at e1
      obtain ⟨a, b, d⟩ := ihl st told pl _ rfl hp (Nat.zero_le _)
      generalize evL l ⟨st, told, pl⟩ = s' at a b d e1
      obtain ⟨st', told', pl'⟩ := s'
      obtain ⟨a', b', d'⟩ := ihr st' told' pl' _ e1 a (by simp only at b; lia)
      refine ⟨a', by simp only at b; lia, fun rest o q => ?_⟩
      rw [e]
      exact .if1 hu (d _ o (.els (beh_end hgk) (by rw [drop_past]; exact d' rest o q)))
theorem runL {m : Int} (hm : m ≤ 2 ^ 62) {l : List Node} {h k : Nat} (x : WF m l h k) (st told pl : List Int) (hp : (pl.length : Int) = m) (hh : h ≤ st.length) :
    ((evL l ⟨st, told, pl⟩).pl.length : Int) = m ∧ (evL l ⟨st, told, pl⟩).st.length + h = st.length + k ∧
      ∀ rest o, Run rest (evL l ⟨st, told, pl⟩).st (evL l ⟨st, told, pl⟩).told (evL l ⟨st, told, pl⟩).pl o → Run (flatL l ++ rest) st told pl o := runL0 hm x st told pl _ rfl hp hh
theorem WF.inv_get {m i : Int} {r : List Node} {h k : Nat} (x : WF m (.leaf [32, i] :: r) h k) : 0 ≤ i ∧ i < m ∧ WF m r (h + 1) k := by
  generalize hl : (Node.leaf [32, i] :: r) = l at x
  cases x <;> simp at hl
  obtain ⟨rfl, rfl⟩ := hl
  exact ⟨by assumption, by assumption, by assumption⟩
theorem WF.inv_set {m i : Int} {r : List Node} {h k : Nat} (x : WF m (.leaf [33, i] :: r) h k) : ∃ h', h = h' + 1 ∧ 0 ≤ i ∧ i < m ∧ WF m r h' k := by
  generalize hl : (Node.leaf [33, i] :: r) = l at x
  cases x <;> simp at hl
  obtain ⟨rfl, rfl⟩ := hl
  exact ⟨_, rfl, by assumption, by assumption, by assumption⟩
theorem WF.inv_tee {m i : Int} {r : List Node} {h k : Nat} (x : WF m (.leaf [34, i] :: r) h k) : ∃ h', h = h' + 1 ∧ 0 ≤ i ∧ i < m ∧ WF m r (h' + 1) k := by
  generalize hl : (Node.leaf [34, i] :: r) = l at x
  cases x <;> simp at hl
  obtain ⟨rfl, rfl⟩ := hl
  exact ⟨_, rfl, by assumption, by assumption, by assumption⟩
theorem WF.split {m : Int} {q : List Node} : ∀ {p : List Node} {h k : Nat}, WF m (p ++ q) h k → ∃ j, WF m p h j ∧ WF m q j k
  | [], h, k, x => ⟨h, .nil, x⟩
  | n :: p, h, k, x => by
    generalize hl : (n :: p) ++ q = l at x
    cases x with
    | nil => simp at hl
    | get a b c => simp only [List.cons_append, List.cons.injEq] at hl; obtain ⟨rfl, rfl⟩ := hl; obtain ⟨j, y, z⟩ := WF.split c; exact ⟨j, .get a b y, z⟩
    | set a b c => simp only [List.cons_append, List.cons.injEq] at hl; obtain ⟨rfl, rfl⟩ := hl; obtain ⟨j, y, z⟩ := WF.split c; exact ⟨j, .set a b y, z⟩
    | tee a b c => simp only [List.cons_append, List.cons.injEq] at hl; obtain ⟨rfl, rfl⟩ := hl; obtain ⟨j, y, z⟩ := WF.split c; exact ⟨j, .tee a b y, z⟩
    | const c => simp only [List.cons_append, List.cons.injEq] at hl; obtain ⟨rfl, rfl⟩ := hl; obtain ⟨j, y, z⟩ := WF.split c; exact ⟨j, .const y, z⟩
    | add c => simp only [List.cons_append, List.cons.injEq] at hl; obtain ⟨rfl, rfl⟩ := hl; obtain ⟨j, y, z⟩ := WF.split c; exact ⟨j, .add y, z⟩
    | call c => simp only [List.cons_append, List.cons.injEq] at hl; obtain ⟨rfl, rfl⟩ := hl; obtain ⟨j, y, z⟩ := WF.split c; exact ⟨j, .call y, z⟩
    | drop c => simp only [List.cons_append, List.cons.injEq] at hl; obtain ⟨rfl, rfl⟩ := hl; obtain ⟨j, y, z⟩ := WF.split c; exact ⟨j, .drop y, z⟩
    | block a b c => simp only [List.cons_append, List.cons.injEq] at hl; obtain ⟨rfl, rfl⟩ := hl; obtain ⟨j, y, z⟩ := WF.split c; exact ⟨j, .block a b y, z⟩
    | if1 a c => simp only [List.cons_append, List.cons.injEq] at hl; obtain ⟨rfl, rfl⟩ := hl; obtain ⟨j, y, z⟩ := WF.split c; exact ⟨j, .if1 a y, z⟩
    | if2 a b c => simp only [List.cons_append, List.cons.injEq] at hl; obtain ⟨rfl, rfl⟩ := hl; obtain ⟨j, y, z⟩ := WF.split c; exact ⟨j, .if2 a b y, z⟩
theorem Two.wf {m : Int} {a b : Node} {x r : List Node} {h k : Nat} (t : Two a b x) (w : WF m (a :: b :: r) h k) : WF m (x ++ r) h k := by
  cases t with
  | sg i => obtain ⟨h', rfl, i0, i1, w⟩ := w.inv_set; obtain ⟨_, _, w⟩ := w.inv_get; exact .tee i0 i1 w
  | gs i => obtain ⟨i0, i1, w⟩ := w.inv_get; obtain ⟨h', e, _, _, w⟩ := w.inv_set; cases e; exact w
  | ts i => obtain ⟨h', rfl, i0, i1, w⟩ := w.inv_tee; obtain ⟨h2, e, _, _, w⟩ := w.inv_set; cases e; exact .set i0 i1 w
  | gt i => obtain ⟨i0, i1, w⟩ := w.inv_get; obtain ⟨h', e, _, _, w⟩ := w.inv_tee; cases e; exact .get i0 i1 w
  | tt i => obtain ⟨h', rfl, i0, i1, w⟩ := w.inv_tee; obtain ⟨h2, e, _, _, w⟩ := w.inv_tee; cases e; exact .tee i0 i1 w
theorem Stp.wf {m : Int} {l l' : List Node} {h k : Nat} (s : Stp l l') (w : WF m l h k) : WF m l' h k := by
  cases s with
  | mk p a b x r t => obtain ⟨j, y, z⟩ := w.split; exact y.append (t.wf z)
theorem Steps.wf {m : Int} {l l' : List Node} {h k : Nat} (s : Steps l l') (w : WF m l h k) : WF m l' h k := by
  induction s with
  | refl => exact w
  | tail a _ ih => exact ih (a.wf w)
theorem set_get {pl : List Int} {n : Nat} (h : n < pl.length) (v : Int) : (pl.set n v).getD n 0 = v := by
  rw [List.getD_eq_getElem?_getD, List.getElem?_set_self h]; rfl
theorem set_same {pl : List Int} {n : Nat} (h : n < pl.length) : pl.set n (pl.getD n 0) = pl := by
  rw [List.getD_eq_getElem?_getD, List.getElem?_eq_getElem h]; exact List.set_getElem_self h
theorem Two.ev {m : Int} {a b : Node} {x r : List Node} {h k : Nat} (t : Two a b x) (w : WF m (a :: b :: r) h k) {st told pl : List Int} (hp : (pl.length : Int) = m) (hh : h ≤ st.length) :
    evL (a :: b :: r) ⟨st, told, pl⟩ = evL (x ++ r) ⟨st, told, pl⟩ := by
  rw [evL_cons, evL_cons]
  cases t with
  | sg i =>
    obtain ⟨h', rfl, i0, i1, w⟩ := w.inv_set
    obtain ⟨v, st', rfl, hh2⟩ := cons_of hh
    rw [ev_set, ev_get, set_get (tn_lt hp i0 i1)]
    show _ = evL (_ :: r) _
    rw [evL_cons, ev_tee]
  | gs i =>
    obtain ⟨i0, i1, w⟩ := w.inv_get
    rw [ev_get, ev_set, set_same (tn_lt hp i0 i1)]; rfl
  | ts i =>
    obtain ⟨h', rfl, i0, i1, w⟩ := w.inv_tee
    obtain ⟨v, st', rfl, hh2⟩ := cons_of hh
    rw [ev_tee, ev_set, List.set_set]
    show _ = evL (_ :: r) _
    rw [evL_cons, ev_set]
  | gt i =>
    obtain ⟨i0, i1, w⟩ := w.inv_get
    rw [ev_get, ev_tee, set_same (tn_lt hp i0 i1)]
    show _ = evL (_ :: r) _
    rw [evL_cons, ev_get]
  | tt i =>
    obtain ⟨h', rfl, i0, i1, w⟩ := w.inv_tee
    obtain ⟨v, st', rfl, hh2⟩ := cons_of hh
    rw [ev_tee, ev_tee, List.set_set]
    show _ = evL (_ :: r) _
    rw [evL_cons, ev_tee]
theorem Stp.ev {m : Int} (hm : m ≤ 2 ^ 62) {l l' : List Node} {h k : Nat} (s : Stp l l') (w : WF m l h k) {st told pl : List Int} (hp : (pl.length : Int) = m) (hh : h ≤ st.length) : evL l ⟨st, told, pl⟩ = evL l' ⟨st, told, pl⟩ := by
  cases s with
  | mk p a b x r t =>
    obtain ⟨j, y, z⟩ := w.split
    rw [evL_append, evL_append p]
    obtain ⟨e1, e2, _⟩ := runL hm y st told pl hp hh
    generalize evL p ⟨st, told, pl⟩ = s' at e1 e2 ⊢
    obtain ⟨st', told', pl'⟩ := s'
    exact t.ev z e1 (by simp only at e2; lia)
theorem Steps.ev {m : Int} (hm : m ≤ 2 ^ 62) {l l' : List Node} {h k : Nat} (s : Steps l l') (w : WF m l h k) {st told pl : List Int} (hp : (pl.length : Int) = m) (hh : h ≤ st.length) : evL l ⟨st, told, pl⟩ = evL l' ⟨st, told, pl⟩ := by
  induction s with
  | refl => rfl
  | tail a _ ih => exact (a.ev hm w hp hh).trans (ih (a.wf w))
theorem joinM_wf {m : Int} {l : List Node} {h k : Nat} (x : WF m l h k) : WF m (joinM l) h k := by
  induction x with
  | nil => exact .nil
  | get a b _ ih => exact .get a b ih
  | set a b _ ih => exact .set a b ih
  | tee a b _ ih => exact .tee a b ih
  | const _ ih => exact .const ih
  | add _ ih => exact .add ih
  | call _ ih => exact .call ih
  | drop _ ih => exact .drop ih
  | block a _ _ i1 i2 => exact .block a ((nf_steps _).wf i1) i2
  | if1 _ _ i1 i2 => exact .if1 ((nf_steps _).wf i1) i2
  | if2 _ _ _ i1 i2 i3 => exact .if2 ((nf_steps _).wf i1) ((nf_steps _).wf i2) i3
theorem joinL_wf {m : Int} {l : List Node} {h k : Nat} (x : WF m l h k) : WF m (joinL l) h k := (nf_steps _).wf (joinM_wf x)
theorem joinM_ev {m : Int} (hm : m ≤ 2 ^ 62) {l : List Node} {h k : Nat} (x : WF m l h k) : ∀ (st told pl : List Int), (pl.length : Int) = m → h ≤ st.length → evL (joinM l) ⟨st, told, pl⟩ = evL l ⟨st, told, pl⟩ := by
  induction x with
  | nil => intro st told pl hp hh; rfl
  | @get i r h k i0 i1 _ ih =>
    intro st told pl hp hh
    show evL (.leaf [32, i] :: joinM r) _ = _
    rw [evL_cons, evL_cons, ev_get]; exact ih _ _ _ hp (by simp; lia)
  | @set i r h k i0 i1 _ ih =>
    intro st told pl hp hh
    obtain ⟨v, st, rfl, hh2⟩ := cons_of hh
    show evL (.leaf [33, i] :: joinM r) _ = _
    rw [evL_cons, evL_cons, ev_set]; exact ih _ _ _ (by simpa using hp) hh2
  | @tee i r h k i0 i1 _ ih =>
    intro st told pl hp hh
    obtain ⟨v, st, rfl, hh2⟩ := cons_of hh
    show evL (.leaf [34, i] :: joinM r) _ = _
    rw [evL_cons, evL_cons, ev_tee]; exact ih _ _ _ (by simpa using hp) hh
  | @const c r h k _ ih =>
    intro st told pl hp hh
    show evL (.leaf [65, c] :: joinM r) _ = _
    rw [evL_cons, evL_cons, ev_const]; exact ih _ _ _ hp (by simp; lia)
  | @add r h k _ ih =>
    intro st told pl hp hh
    obtain ⟨u, st, rfl, hh2⟩ := cons_of hh
    obtain ⟨v, st, rfl, hh3⟩ := cons_of hh2
    show evL (.leaf [106] :: joinM r) _ = _
    rw [evL_cons, evL_cons, ev_add]; exact ih _ _ _ hp (by simp; lia)
  | @call r h k _ ih =>
    intro st told pl hp hh
    obtain ⟨u, st, rfl, hh2⟩ := cons_of hh
    show evL (.leaf [16, 0] :: joinM r) _ = _
    rw [evL_cons, evL_cons, ev_call]; exact ih _ _ _ hp hh2
  | @drop r h k _ ih =>
    intro st told pl hp hh
    obtain ⟨u, st, rfl, hh2⟩ := cons_of hh
    show evL (.leaf [26] :: joinM r) _ = _
    rw [evL_cons, evL_cons, ev_drop]; exact ih _ _ _ hp hh2
  | @block c l r h k hc hl _ ihl ihr =>
    intro st told pl hp hh
    show evL (.one [c, -64] (nf (joinM l)) :: joinM r) _ = _
    rw [evL_cons, evL_cons, ev_block hc, ev_block hc, ← (nf_steps _).ev hm (joinM_wf hl) hp (Nat.zero_le _), ihl _ _ _ hp (Nat.zero_le _)]
    obtain ⟨e1, e2, _⟩ := runL hm hl st told pl hp (Nat.zero_le _)
    generalize evL l ⟨st, told, pl⟩ = s' at e1 e2 ⊢
    obtain ⟨st', told', pl'⟩ := s'
    exact ihr _ _ _ e1 (by simp only at e2; lia)
  | @if1 l r h k hl _ ihl ihr =>
    intro st told pl hp hh
    obtain ⟨u, st, rfl, hh2⟩ := cons_of hh
    show evL (.one [4, -64] (nf (joinM l)) :: joinM r) _ = _
    rw [evL_cons, evL_cons, ev_if1, ev_if1, ← (nf_steps _).ev hm (joinM_wf hl) hp (Nat.zero_le _), ihl _ _ _ hp (Nat.zero_le _)]
    by_cases hu : u = 0
    · rw [if_pos hu]; exact ihr _ _ _ hp hh2
    · rw [if_neg hu]
      obtain ⟨e1, e2, _⟩ := runL hm hl st told pl hp (Nat.zero_le _)
      generalize evL l ⟨st, told, pl⟩ = s' at e1 e2 ⊢
      obtain ⟨st', told', pl'⟩ := s'
      exact ihr _ _ _ e1 (by simp only at e2; lia)
  | @if2 l k' r h k hl hk _ ihl ihk ihr =>
    intro st told pl hp hh
    obtain ⟨u, st, rfl, hh2⟩ := cons_of hh
    show evL (.two [4, -64] (nf (joinM l)) (nf (joinM k')) :: joinM r) _ = _
    rw [evL_cons, evL_cons, ev_if2, ev_if2, ← (nf_steps _).ev hm (joinM_wf hl) hp (Nat.zero_le _), ← (nf_steps _).ev hm (joinM_wf hk) hp (Nat.zero_le _), ihl _ _ _ hp (Nat.zero_le _), ihk _ _ _ hp (Nat.zero_le _)]
    by_cases hu : u = 0
    · rw [if_pos hu]
      obtain ⟨e1, e2, _⟩ := runL hm hk st told pl hp (Nat.zero_le _)
      generalize evL k' ⟨st, told, pl⟩ = s' at e1 e2 ⊢
      obtain ⟨st', told', pl'⟩ := s'
      exact ihr _ _ _ e1 (by simp only at e2; lia)
    · rw [if_neg hu]
      obtain ⟨e1, e2, _⟩ := runL hm hl st told pl hp (Nat.zero_le _)
      generalize evL l ⟨st, told, pl⟩ = s' at e1 e2 ⊢
      obtain ⟨st', told', pl'⟩ := s'
      exact ihr _ _ _ e1 (by simp only at e2; lia)
theorem joinL_ev {m : Int} (hm : m ≤ 2 ^ 62) {l : List Node} {h k : Nat} (x : WF m l h k) {st told pl : List Int} (hp : (pl.length : Int) = m) (hh : h ≤ st.length) : evL (joinL l) ⟨st, told, pl⟩ = evL l ⟨st, told, pl⟩ := by
  unfold joinL
  rw [← (nf_steps _).ev hm (joinM_wf x) hp hh]; exact joinM_ev hm x _ _ _ hp hh
-- what is joined is joined
theorem Normal.nf {l : List Node} (h : Normal l) : nf l = l := h.stay (nf_steps l)
theorem nf_idem (l : List Node) : nf (nf l) = nf l := (nf_normal l).nf
noncomputable def JN (n : Node) : Prop := joinN n = n
theorem Two.jn {a b : Node} {x : List Node} (t : Two a b x) : ∀ n ∈ x, JN n := by cases t <;> simp [JN, joinN]
theorem Stp.jn {l l' : List Node} (s : Stp l l') (h : ∀ n ∈ l, JN n) : ∀ n ∈ l', JN n := by
  cases s with
  | mk p a b x r t =>
    intro n hn
    rcases List.mem_append.mp hn with hn | hn
    · exact h n (List.mem_append_left _ hn)
    · rcases List.mem_append.mp hn with hn | hn
      · exact t.jn n hn
      · exact h n (List.mem_append_right _ (.tail _ (.tail _ hn)))
theorem Steps.jn {l l' : List Node} (s : Steps l l') (h : ∀ n ∈ l, JN n) : ∀ n ∈ l', JN n := by
  induction s with
  | refl => exact h
  | tail a _ ih => exact ih (a.jn h)
theorem joinM_id {l : List Node} (h : ∀ n ∈ l, JN n) : joinM l = l := by
  rw [joinM_map]
  conv => rhs; rw [← List.map_id l]
  exact List.map_congr_left h
mutual
theorem joinN_idem : ∀ n : Node, JN (joinN n)
  | .leaf op => rfl
  | .one op l => by show Node.one op (nf (joinM (nf (joinM l)))) = _; rw [joinM_id ((nf_steps _).jn (joinM_all l)), nf_idem]; rfl
  | .two op l k => by
    show Node.two op (nf (joinM (nf (joinM l)))) (nf (joinM (nf (joinM k)))) = _
    rw [joinM_id ((nf_steps _).jn (joinM_all l)), nf_idem, joinM_id ((nf_steps _).jn (joinM_all k)), nf_idem]; rfl
theorem joinM_all : ∀ l : List Node, ∀ n ∈ joinM l, JN n
  | [], n, hn => by simp [joinM] at hn
  | a :: r, n, hn => by
    rw [joinM, List.mem_cons] at hn
    rcases hn with rfl | hn
    · exact joinN_idem a
    · exact joinM_all r n hn
end
theorem joinL_idem (l : List Node) : joinL (joinL l) = joinL l := by
  unfold joinL
  rw [joinM_id ((nf_steps _).jn (joinM_all l)), nf_idem]
mutual
noncomputable def kN (O : List (List Int)) (p : Nat) : Node → List Node
  | .leaf op => (keptOp O p op).map .leaf
  | .one op l => [.one op (kL O p l)]
  | .two op l k => [.two op (kL O p l) (kL O p k)]
noncomputable def kL (O : List (List Int)) (p : Nat) : List Node → List Node
  | [] => []
  | n :: r => kN O p n ++ kL O p r
end
theorem flatL_leaves : ∀ l : List (List Int), flatL (l.map .leaf) = l
  | [] => rfl
  | a :: r => by rw [List.map_cons, flatL, flatL_leaves r]; rfl
theorem keptOps_app (O : List (List Int)) (p : Nat) (a b : List (List Int)) : keptOps O p (a ++ b) = keptOps O p a ++ keptOps O p b := by unfold keptOps; exact List.flatMap_append ..
theorem keptOps_cons (O : List (List Int)) (p : Nat) (a : List Int) (b : List (List Int)) : keptOps O p (a :: b) = keptOp O p a ++ keptOps O p b := by unfold keptOps; exact List.flatMap_cons ..
mutual
theorem flat_kN {m : Int} {O : List (List Int)} {p : Nat} : ∀ n : Node, GoodN m n → flatL (kN O p n) = keptOps O p (flatN n)
  | .leaf op, h => by rw [kN, flatL_leaves, flatN, keptOps_cons]; simp [keptOps]
  | .one op l, h => by
    have e1 : keptOp O p op = [op] := by rcases h.1 with rfl | rfl | rfl <;> exact keptOp_oth (by decide)
    rw [kN, flatN, keptOps_cons, keptOps_app, e1, ← flat_kL l h.2, flatL, flatN, flatL]
    have e2 : keptOps O p [[11]] = [[11]] := by rw [keptOps_cons, keptOp_oth (by decide)]; rfl
    rw [e2]; simp
  | .two op l k, h => by
    have e1 : keptOp O p op = [op] := by rw [h.1]; exact keptOp_oth (by decide)
    rw [kN, flatN, keptOps_cons, keptOps_app, keptOps_cons, keptOps_app, e1, ← flat_kL l h.2.1, ← flat_kL k h.2.2, flatL, flatN, flatL]
    have e2 : keptOps O p [[11]] = [[11]] := by rw [keptOps_cons, keptOp_oth (by decide)]; rfl
    have e3 : keptOp O p [5] = [[5]] := keptOp_oth (by decide)
    rw [e2, e3]; simp
theorem flat_kL {m : Int} {O : List (List Int)} {p : Nat} : ∀ l : List Node, GoodL m l → flatL (kL O p l) = keptOps O p (flatL l)
  | [], h => rfl
  | n :: r, h => by rw [kL, flatL_append, flat_kN n h.1, flat_kL r h.2, flatL, keptOps_app]
end
theorem cnt_lt {O : List (List Int)} {p q n : Nat} (hq : q < n) (hr : rd O ((p + q : Nat) : Int) = true) : cnt O p q < cnt O p n := by
  have h1 : cnt O p (q + 1) = cnt O p q + 1 := by rw [cnt, if_pos hr]
  have h2 := cnt_mono O p (q + 1) (n - (q + 1))
  rw [Nat.add_sub_of_le hq, h1] at h2
  exact h2
theorem ren_bd {O : List (List Int)} {p n : Nat} {i : Int} (i0 : 0 ≤ i) (i1 : i < ((p + n : Nat) : Int)) (hr : rd O i = true) : 0 ≤ ren O p i ∧ ren O p i < ((p + cnt O p n : Nat) : Int) := by
  by_cases h : i < p
  · rw [ren_lo O p h]; lia
  · obtain ⟨q, rfl⟩ := hi_of h
    rw [ren_hi]
    have := cnt_lt (O := O) (p := p) (q := q) (n := n) (by lia) hr
    lia
theorem ren_inj {O : List (List Int)} {p : Nat} {i j : Int} (hi : rd O i = true) (hj : rd O j = true) (e : ren O p i = ren O p j) : i = j := by
  by_cases h1 : i < p
  · by_cases h2 : j < p
    · rwa [ren_lo O p h1, ren_lo O p h2] at e
    · obtain ⟨q, rfl⟩ := hi_of h2
      rw [ren_lo O p h1, ren_hi] at e; lia
  · obtain ⟨a, rfl⟩ := hi_of h1
    by_cases h2 : j < p
    · rw [ren_lo O p h2, ren_hi] at e; lia
    · obtain ⟨b, rfl⟩ := hi_of h2
      rw [ren_hi, ren_hi] at e
      rcases Nat.lt_trichotomy a b with h | h | h
      · have := cnt_lt (O := O) (p := p) h hi; lia
      · rw [h]
      · have := cnt_lt (O := O) (p := p) h hj; lia
theorem kL_leaf {O : List (List Int)} {p : Nat} {op : List Int} {r : List Node} : kL O p (.leaf op :: r) = (keptOp O p op).map .leaf ++ kL O p r := by rw [kL, kN]
theorem kL_wf {O : List (List Int)} {p n : Nat} {l : List Node} {h k : Nat} {m : Int} (x : WF m l h k) (hm : m = ((p + n : Nat) : Int)) (hin : ∀ op ∈ flatL l, op ∈ O) : WF ((p + cnt O p n : Nat) : Int) (kL O p l) h k := by
  induction x with
  | nil => exact .nil
  | @get i r h k i0 i1 _ ih =>
    have hr : rd O i = true := decide_eq_true (hin _ (by simp [flatL, flatN]))
    have ih := ih fun op ho => hin op (by simp [flatL, flatN, ho])
    obtain ⟨b0, b1⟩ := ren_bd (p := p) i0 (hm ▸ i1) hr
    rw [kL_leaf, keptOp_get (by decide) (by decide) hr]
    exact .get b0 b1 ih
  | @set i r h k i0 i1 _ ih =>
    have ih := ih fun op ho => hin op (by simp [flatL, flatN, ho])
    by_cases hr : rd O i = true
    · obtain ⟨b0, b1⟩ := ren_bd (p := p) i0 (hm ▸ i1) hr
      rw [kL_leaf, keptOp_get (by decide) (by decide) hr]
      exact .set b0 b1 ih
    · rw [kL_leaf, keptOp_set (by simpa using hr)]; exact .drop ih
  | @tee i r h k i0 i1 _ ih =>
    have ih := ih fun op ho => hin op (by simp [flatL, flatN, ho])
    by_cases hr : rd O i = true
    · obtain ⟨b0, b1⟩ := ren_bd (p := p) i0 (hm ▸ i1) hr
      rw [kL_leaf, keptOp_get (by decide) (by decide) hr]
      exact .tee b0 b1 ih
    · rw [kL_leaf, keptOp_tee (by simpa using hr)]; exact ih
  | @const c r h k _ ih =>
    have ih := ih fun op ho => hin op (by simp [flatL, flatN, ho])
    rw [kL_leaf, keptOp_oth (by decide)]; exact .const ih
  | @add r h k _ ih =>
    have ih := ih fun op ho => hin op (by simp [flatL, flatN, ho])
    rw [kL_leaf, keptOp_oth (by decide)]; exact .add ih
  | @call r h k _ ih =>
    have ih := ih fun op ho => hin op (by simp [flatL, flatN, ho])
    rw [kL_leaf, keptOp_oth (by decide)]; exact .call ih
  | @drop r h k _ ih =>
    have ih := ih fun op ho => hin op (by simp [flatL, flatN, ho])
    rw [kL_leaf, keptOp_oth (by decide)]; exact .drop ih
  | @block c l r h k hc _ _ i1 i2 =>
    have i1 := i1 fun op ho => hin op (by simp [flatL, flatN, ho])
    have i2 := i2 fun op ho => hin op (by simp [flatL, flatN, ho])
    rw [kL, kN]; exact .block hc i1 i2
  | @if1 l r h k _ _ i1 i2 =>
    have i1 := i1 fun op ho => hin op (by simp [flatL, flatN, ho])
    have i2 := i2 fun op ho => hin op (by simp [flatL, flatN, ho])
    rw [kL, kN]; exact .if1 i1 i2
  | @if2 l l' r h k _ _ _ i1 i2 i3 =>
    have i1 := i1 fun op ho => hin op (by simp [flatL, flatN, ho])
    have i2 := i2 fun op ho => hin op (by simp [flatL, flatN, ho])
    have i3 := i3 fun op ho => hin op (by simp [flatL, flatN, ho])
    rw [kL, kN]; exact .if2 i1 i2 i3
noncomputable def Sim (O : List (List Int)) (p : Nat) (m : Int) (pl pl' : List Int) : Prop := ∀ i : Int, 0 ≤ i → i < m → rd O i = true → pl'.getD (ren O p i).toNat 0 = pl.getD i.toNat 0
theorem getD_set (pl : List Int) (a b : Nat) (v : Int) : (pl.set a v).getD b 0 = if a = b ∧ a < pl.length then v else pl.getD b 0 := by
  rw [List.getD_eq_getElem?_getD, List.getD_eq_getElem?_getD, List.getElem?_set]
  by_cases h : a = b
  · subst h
    by_cases h2 : a < pl.length
    · simp [h2]
    · simp [h2, List.getElem?_eq_none (Nat.le_of_not_lt h2)]
  · simp [h]
theorem Sim.set {O : List (List Int)} {p n : Nat} {pl pl' : List Int} (s : Sim O p ((p + n : Nat) : Int) pl pl') (hl : (pl.length : Int) = ((p + n : Nat) : Int)) (hl' : (pl'.length : Int) = ((p + cnt O p n : Nat) : Int)) {i : Int} (i0 : 0 ≤ i) (i1 : i < ((p + n : Nat) : Int)) (hr : rd O i = true) (v : Int) :
    Sim O p ((p + n : Nat) : Int) (pl.set i.toNat v) (pl'.set (ren O p i).toNat v) := by
  intro j j0 j1 jr
  obtain ⟨b0, b1⟩ := ren_bd (p := p) i0 i1 hr
  obtain ⟨c0, c1⟩ := ren_bd (p := p) j0 j1 jr
  rw [getD_set, getD_set]
  by_cases e : i = j
  · subst e; rw [if_pos ⟨rfl, tn_lt hl' b0 b1⟩, if_pos ⟨rfl, tn_lt hl i0 i1⟩]
  · have e' : ren O p i ≠ ren O p j := fun q => e (ren_inj hr jr q)
    rw [if_neg (tn_ne b0 c0 e'), if_neg (tn_ne i0 j0 e)]; exact s j j0 j1 jr
theorem Sim.set' {O : List (List Int)} {p n : Nat} {pl pl' : List Int} (s : Sim O p ((p + n : Nat) : Int) pl pl') {i : Int} (i0 : 0 ≤ i) (hr : rd O i = false) (v : Int) : Sim O p ((p + n : Nat) : Int) (pl.set i.toNat v) pl' := by
  intro j j0 j1 jr
  rw [getD_set]
  have e : i ≠ j := by rintro rfl; rw [hr] at jr; cases jr
  rw [if_neg (tn_ne i0 j0 e)]; exact s j j0 j1 jr
noncomputable def Kev (O : List (List Int)) (p n : Nat) (m : Int) (s0 : St) (lk : List Node) (s1 : St) : Prop := ∃ pl2, evL lk s0 = ⟨s1.st, s1.told, pl2⟩ ∧ (pl2.length : Int) = ((p + cnt O p n : Nat) : Int) ∧ Sim O p m s1.pl pl2
theorem kL_ev0 {O : List (List Int)} {p n : Nat} (hn : ((p + n : Nat) : Int) ≤ 2 ^ 62) {l : List Node} {h k : Nat} {m : Int} (x : WF m l h k) (hm : m = ((p + n : Nat) : Int)) (hin : ∀ op ∈ flatL l, op ∈ O) : ∀ (st told pl pl' : List Int) (s1 : St), evL l ⟨st, told, pl⟩ = s1 → (pl.length : Int) = m → (pl'.length : Int) = ((p + cnt O p n : Nat) : Int) → h ≤ st.length → Sim O p m pl pl' →
    Kev O p n m ⟨st, told, pl'⟩ (kL O p l) s1 := by
  subst hm
  induction x with
  | nil => intro st told pl pl' s1 e1 hl hl' hh hs; subst e1; exact ⟨pl', rfl, hl', hs⟩
  | @get i r h k i0 i1 _ ih =>
    intro st told pl pl' s1 e0 hl hl' hh hs
    have hr : rd O i = true := decide_eq_true (hin _ (by simp [flatL, flatN]))
    have ih := ih fun op ho => hin op (by simp [flatL, flatN, ho])
    rw [evL_cons, ev_get] at e0
    rw [kL_leaf, keptOp_get (by decide) (by decide) hr]
    show Kev _ _ _ _ _ (.leaf [32, ren O p i] :: kL O p r) _
    rw [Kev, evL_cons, ev_get, hs i i0 i1 hr]
    exact ih _ _ _ _ _ e0 hl hl' (by simp; lia) hs
  | @set i r h k i0 i1 _ ih =>
    intro st told pl pl' s1 e0 hl hl' hh hs
    have ih := ih fun op ho => hin op (by simp [flatL, flatN, ho])
    obtain ⟨v, st, rfl, hh2⟩ := cons_of hh
    rw [evL_cons, ev_set] at e0
    rw [kL_leaf]
    by_cases hr : rd O i = true
    · rw [keptOp_get (by decide) (by decide) hr]
      show Kev _ _ _ _ _ (.leaf [33, ren O p i] :: kL O p r) _
      rw [Kev, evL_cons, ev_set]
      exact ih _ _ _ _ _ e0 (by simpa using hl) (by simpa using hl') hh2 (hs.set hl hl' i0 i1 hr v)
    · have hr' : rd O i = false := by simpa using hr
      rw [keptOp_set hr']
      show Kev _ _ _ _ _ (.leaf [26] :: kL O p r) _
      rw [Kev, evL_cons, ev_drop]
      exact ih _ _ _ _ _ e0 (by simpa using hl) hl' hh2 (hs.set' i0 hr' v)
  | @tee i r h k i0 i1 _ ih =>
    intro st told pl pl' s1 e0 hl hl' hh hs
    have ih := ih fun op ho => hin op (by simp [flatL, flatN, ho])
    obtain ⟨v, st, rfl, hh2⟩ := cons_of hh
    rw [evL_cons, ev_tee] at e0
    rw [kL_leaf]
    by_cases hr : rd O i = true
    · rw [keptOp_get (by decide) (by decide) hr]
      show Kev _ _ _ _ _ (.leaf [34, ren O p i] :: kL O p r) _
      rw [Kev, evL_cons, ev_tee]
      exact ih _ _ _ _ _ e0 (by simpa using hl) (by simpa using hl') hh (hs.set hl hl' i0 i1 hr v)
    · have hr' : rd O i = false := by simpa using hr
      rw [keptOp_tee hr']
      exact ih _ _ _ _ _ e0 (by simpa using hl) hl' hh (hs.set' i0 hr' v)
  | @const c r h k _ ih =>
    intro st told pl pl' s1 e0 hl hl' hh hs
    have ih := ih fun op ho => hin op (by simp [flatL, flatN, ho])
    rw [evL_cons, ev_const] at e0
    rw [kL_leaf, keptOp_oth (by decide)]
    show Kev _ _ _ _ _ (.leaf [65, c] :: kL O p r) _
    rw [Kev, evL_cons, ev_const]
    exact ih _ _ _ _ _ e0 hl hl' (by simp; lia) hs
  | @add r h k _ ih =>
    intro st told pl pl' s1 e0 hl hl' hh hs
    have ih := ih fun op ho => hin op (by simp [flatL, flatN, ho])
    obtain ⟨u, st, rfl, hh2⟩ := cons_of hh
    obtain ⟨v, st, rfl, hh3⟩ := cons_of hh2
    rw [evL_cons, ev_add] at e0
    rw [kL_leaf, keptOp_oth (by decide)]
    show Kev _ _ _ _ _ (.leaf [106] :: kL O p r) _
    rw [Kev, evL_cons, ev_add]
    exact ih _ _ _ _ _ e0 hl hl' (by simp; lia) hs
  | @call r h k _ ih =>
    intro st told pl pl' s1 e0 hl hl' hh hs
    have ih := ih fun op ho => hin op (by simp [flatL, flatN, ho])
    obtain ⟨u, st, rfl, hh2⟩ := cons_of hh
    rw [evL_cons, ev_call] at e0
    rw [kL_leaf, keptOp_oth (by decide)]
    show Kev _ _ _ _ _ (.leaf [16, 0] :: kL O p r) _
    rw [Kev, evL_cons, ev_call]
    exact ih _ _ _ _ _ e0 hl hl' hh2 hs
  | @drop r h k _ ih =>
    intro st told pl pl' s1 e0 hl hl' hh hs
    have ih := ih fun op ho => hin op (by simp [flatL, flatN, ho])
    obtain ⟨u, st, rfl, hh2⟩ := cons_of hh
    rw [evL_cons, ev_drop] at e0
    rw [kL_leaf, keptOp_oth (by decide)]
    show Kev _ _ _ _ _ (.leaf [26] :: kL O p r) _
    rw [Kev, evL_cons, ev_drop]
    exact ih _ _ _ _ _ e0 hl hl' hh2 hs
  | @block c l r h k hc hl0 _ i1 i2 =>
    intro st told pl pl' s1 e0 hl hl' hh hs
    have i1 := i1 fun op ho => hin op (by simp [flatL, flatN, ho])
    have i2 := i2 fun op ho => hin op (by simp [flatL, flatN, ho])
    rw [evL_cons, ev_block hc] at e0
    rw [kL, kN]
    show Kev _ _ _ _ _ (.one [c, -64] (kL O p l) :: kL O p r) _
    rw [Kev, evL_cons, ev_block hc]
    obtain ⟨pl2, e, hl2, hs2⟩ := i1 st told pl pl' _ rfl hl hl' (Nat.zero_le _) hs
    obtain ⟨e1, e2, _⟩ := runL hn hl0 st told pl hl (Nat.zero_le _)
    generalize evL l ⟨st, told, pl⟩ = s' at e e0 e1 e2 hs2
    obtain ⟨st', told', pl3⟩ := s'
    rw [e]; exact i2 _ _ _ _ _ e0 e1 hl2 (by simp only at e2 ⊢; lia) hs2
  | @if1 l r h k hl0 _ i1 i2 =>
    intro st told pl pl' s1 e0 hl hl' hh hs
    have i1 := i1 fun op ho => hin op (by simp [flatL, flatN, ho])
    have i2 := i2 fun op ho => hin op (by simp [flatL, flatN, ho])
    obtain ⟨u, st, rfl, hh2⟩ := cons_of hh
    rw [evL_cons, ev_if1] at e0
    rw [kL, kN]
    show Kev _ _ _ _ _ (.one [4, -64] (kL O p l) :: kL O p r) _
    rw [Kev, evL_cons, ev_if1]
    by_cases hu : u = 0
    · rw [if_pos hu] at e0; rw [if_pos hu]; exact i2 _ _ _ _ _ e0 hl hl' hh2 hs
    · rw [if_neg hu] at e0; rw [if_neg hu]
      obtain ⟨pl2, e, hl2, hs2⟩ := i1 st told pl pl' _ rfl hl hl' (Nat.zero_le _) hs
      obtain ⟨e1, e2, _⟩ := runL hn hl0 st told pl hl (Nat.zero_le _)
      generalize evL l ⟨st, told, pl⟩ = s' at e e0 e1 e2 hs2
      obtain ⟨st', told', pl3⟩ := s'
      rw [e]; exact i2 _ _ _ _ _ e0 e1 hl2 (by simp only at e2 ⊢; lia) hs2
  | @if2 l l2 r h k hl0 hk0 _ i1 ik i2 =>
    intro st told pl pl' s1 e0 hl hl' hh hs
    have i1 := i1 fun op ho => hin op (by simp [flatL, flatN, ho])
    have ik := ik fun op ho => hin op (by simp [flatL, flatN, ho])
    have i2 := i2 fun op ho => hin op (by simp [flatL, flatN, ho])
    obtain ⟨u, st, rfl, hh2⟩ := cons_of hh
    rw [evL_cons, ev_if2] at e0
    rw [kL, kN]
    show Kev _ _ _ _ _ (.two [4, -64] (kL O p l) (kL O p l2) :: kL O p r) _
    rw [Kev, evL_cons, ev_if2]
    by_cases hu : u = 0
    · rw [if_pos hu] at e0; rw [if_pos hu]
      obtain ⟨pl2, e, hl2, hs2⟩ := ik st told pl pl' _ rfl hl hl' (Nat.zero_le _) hs
      obtain ⟨e1, e2, _⟩ := runL hn hk0 st told pl hl (Nat.zero_le _)
      generalize evL l2 ⟨st, told, pl⟩ = s' at e e0 e1 e2 hs2
      obtain ⟨st', told', pl3⟩ := s'
      rw [e]; exact i2 _ _ _ _ _ e0 e1 hl2 (by simp only at e2 ⊢; lia) hs2
    · rw [if_neg hu] at e0; rw [if_neg hu]
      obtain ⟨pl2, e, hl2, hs2⟩ := i1 st told pl pl' _ rfl hl hl' (Nat.zero_le _) hs
      obtain ⟨e1, e2, _⟩ := runL hn hl0 st told pl hl (Nat.zero_le _)
      generalize evL l ⟨st, told, pl⟩ = s' at e e0 e1 e2 hs2
      obtain ⟨st', told', pl3⟩ := s'
      rw [e]; exact i2 _ _ _ _ _ e0 e1 hl2 (by simp only at e2 ⊢; lia) hs2
theorem kL_ev {O : List (List Int)} {p n : Nat} (hn : ((p + n : Nat) : Int) ≤ 2 ^ 62) {l : List Node} {h k : Nat} {m : Int} (x : WF m l h k) (hm : m = ((p + n : Nat) : Int)) (hin : ∀ op ∈ flatL l, op ∈ O) : ∀ (st told pl pl' : List Int), (pl.length : Int) = m → (pl'.length : Int) = ((p + cnt O p n : Nat) : Int) → h ≤ st.length → Sim O p m pl pl' →
    ∃ pl2, evL (kL O p l) ⟨st, told, pl'⟩ = ⟨(evL l ⟨st, told, pl⟩).st, (evL l ⟨st, told, pl⟩).told, pl2⟩ ∧ (pl2.length : Int) = ((p + cnt O p n : Nat) : Int) ∧ Sim O p m (evL l ⟨st, told, pl⟩).pl pl2 := fun st told pl pl' a b c d => kL_ev0 hn x hm hin st told pl pl' _ rfl a b c d
noncomputable def full (l : List Node) : List (List Int) := flatL l ++ [[11]]
noncomputable def outOf (l : List Node) (pl : List Int) : List Int × List Int := ((evL l ⟨[], [], pl⟩).told, (evL l ⟨[], [], pl⟩).st)
theorem run_full {m : Int} (hm : m ≤ 2 ^ 62) {l : List Node} {k : Nat} (x : WF m l 0 k) {pl : List Int} (hp : (pl.length : Int) = m) : Run (full l) [] [] pl (outOf l pl) :=
  (runL hm x [] [] pl hp (Nat.zero_le _)).2.2 _ _ (.pass (.inr (.inr rfl)) .done)
theorem out_join {m : Int} (hm : m ≤ 2 ^ 62) {l : List Node} {k : Nat} (x : WF m l 0 k) {pl : List Int} (hp : (pl.length : Int) = m) : outOf (joinL l) pl = outOf l pl := by
  unfold outOf; rw [joinL_ev hm x hp (Nat.zero_le _)]
theorem getD_app {a : List Int} {n : Nat} (i : Nat) : (a ++ List.replicate n 0).getD i 0 = a.getD i 0 := by
  rw [List.getD_eq_getElem?_getD, List.getD_eq_getElem?_getD, List.getElem?_append]
  by_cases h : i < a.length
  · rw [if_pos h]
  · rw [if_neg h, List.getElem?_eq_none (Nat.le_of_not_lt h), List.getElem?_replicate]
    split <;> rfl
theorem run_kept {p n k : Nat} (hn : ((p + n : Nat) : Int) ≤ 2 ^ 62) {l : List Node} (x : WF ((p + n : Nat) : Int) l 0 k) {vals : List Int} (hv : vals.length = p) :
    Run (keptOps (full l) p (full l)) [] [] (vals ++ List.replicate (cnt (full l) p n) 0) (outOf l (vals ++ List.replicate n 0)) := by
  have hin : ∀ op ∈ flatL l, op ∈ full l := fun op ho => List.mem_append_left _ ho
  have hl : ((vals ++ List.replicate n (0 : Int)).length : Int) = ((p + n : Nat) : Int) := by simp [hv]
  have hl' : ((vals ++ List.replicate (cnt (full l) p n) (0 : Int)).length : Int) = ((p + cnt (full l) p n : Nat) : Int) := by simp [hv]
  have hsim : Sim (full l) p ((p + n : Nat) : Int) (vals ++ List.replicate n 0) (vals ++ List.replicate (cnt (full l) p n) 0) := by
    intro i i0 i1 hr
    rw [getD_app, getD_app]
    by_cases h : i < p
    · rw [ren_lo _ p h]
    · obtain ⟨q, rfl⟩ := hi_of h
      rw [ren_hi, List.getD_eq_getElem?_getD, List.getD_eq_getElem?_getD, List.getElem?_eq_none (show vals.length ≤ ((p : Int) + (cnt (full l) p q : Nat)).toNat from Nat.le_trans (Nat.le_of_eq hv) (Nat.le_add_right p _)), List.getElem?_eq_none (show vals.length ≤ ((p + q : Nat) : Int).toNat from Nat.le_trans (Nat.le_of_eq hv) (Nat.le_add_right p q))]
  obtain ⟨pl2, e, _, _⟩ := kL_ev (O := full l) hn x rfl hin [] [] _ _ hl hl' (Nat.zero_le _) hsim
  have w := kL_wf (O := full l) x rfl hin
  have hc := cnt_le (full l) p n
  have r := (runL (m := ((p + cnt (full l) p n : Nat) : Int)) (Int.le_trans (Int.ofNat_le.2 (Nat.add_le_add_left hc p)) hn) w [] [] _ hl' (Nat.zero_le _)).2.2 [[11]] (outOf l (vals ++ List.replicate n 0)) (by
    rw [e]; exact .pass (.inr (.inr rfl)) .done)
  have ek : keptOps (full l) p (full l) = flatL (kL (full l) p l) ++ [[11]] := by
    conv => lhs; arg 3; unfold full
    rw [keptOps_app, flat_kL l x.good, keptOps_cons, keptOp_oth (by decide)]; rfl
  rw [ek]; exact r
mutual
theorem caseN {m : Int} : ∀ n : Node, GoodN m n → ∀ op ∈ flatN n, OpCase m op
  | .leaf op, h, o, ho => by
    rw [flatN, List.mem_singleton] at ho; subst ho
    rcases h with ⟨c, i, rfl, h1, h2, h3, h4⟩ | ⟨c, rfl⟩ | rfl | rfl | rfl
    · exact .loc h1 h2 h3 h4
    all_goals exact .oth (by decide)
  | .one op l, h, o, ho => by
    simp only [flatN, List.mem_cons, List.mem_append, List.mem_nil_iff, or_false] at ho
    rcases ho with rfl | ho | rfl
    · rcases h.1 with rfl | rfl | rfl <;> exact .oth (by decide)
    · exact caseL l h.2 o ho
    · exact .oth (by decide)
  | .two op l k, h, o, ho => by
    simp only [flatN, List.mem_cons, List.mem_append, List.mem_nil_iff, or_false] at ho
    rcases ho with rfl | ho | rfl | ho | rfl
    · rw [h.1]; exact .oth (by decide)
    · exact caseL l h.2.1 o ho
    · exact .oth (by decide)
    · exact caseL k h.2.2 o ho
    · exact .oth (by decide)
theorem caseL {m : Int} : ∀ l : List Node, GoodL m l → ∀ op ∈ flatL l, OpCase m op
  | [], _, o, ho => by simp [flatL] at ho
  | n :: r, h, o, ho => by
    rw [flatL, List.mem_append] at ho
    rcases ho with ho | ho
    · exact caseN n h.1 o ho
    · exact caseL r h.2 o ho
end
theorem case_full {m : Int} {l : List Node} (h : GoodL m l) : ∀ op ∈ full l, OpCase m op := by
  intro op ho
  rcases List.mem_append.mp ho with ho | ho
  · exact caseL l h op ho
  · rw [List.mem_singleton.mp ho]; exact .oth (by decide)
theorem kept_ok {m : Int} {O l : List (List Int)} {p : Nat} (h : ∀ op ∈ l, OpCase m op) : ∀ op ∈ keptOps O p l, op ≠ [] := by
  intro op ho
  obtain ⟨a, ha, hb⟩ := List.mem_flatMap.mp ho
  cases h a ha with
  | @loc c i =>
    rw [keptOp2] at hb
    repeat' split at hb
    all_goals simp at hb
    all_goals (subst hb; simp)
  | @oth c t hc => rw [keptOp_oth hc] at hb; rw [List.mem_singleton.mp hb]; simp
section
variable {prog : Program} {w : World} {A : Around} {E : Value → Shared → Prop}
variable {hb : Heap} {s0 : Shared} {mods : List Addr} {g0 : FH} {env : Env} {ns : List Str} {vs : List (Option Value)} {led : Led} {g : FH} {s s' : Shared}
theorem S.adopt1 (σ : S hb s0 mods g0 env ns vs led g s) {led' : Led} {g' : FH} (σ' : S hb s0 mods g0 env ns vs led' g' s') (had : led'.map (·.1) = led.map (·.1)) {a : Addr} {P : Obj → Prop} (hn : s.heap.get? a = none) (ho : ∃ o, s'.heap.get? a = some o ∧ P o) (hg : g' a = none) :
    S hb s0 mods g0 env ns vs ((a, P) :: led') g' s' := by
  have ne : a ∉ env.locals :: led.map (·.1) := fun q => by
    obtain ⟨o, e⟩ := σ.there q
    rw [hn] at e; cases e
  refine ⟨σ'.eok, σ'.nsl, fun p hp => ?_, ?_, fun b hb' => ?_, σ'.hbg, σ'.gin, σ'.ggr, σ'.gnew, σ'.ext⟩
  · rcases List.mem_cons.mp hp with rfl | hp
    · exact ho
    · exact σ'.lok p hp
  · have nd := List.nodup_cons.mp σ'.nodup
    rw [had] at nd
    simp only [List.mem_cons, not_or] at ne
    simp only [List.map_cons, List.nodup_cons, List.mem_cons, not_or]
    rw [had]
    exact ⟨⟨fun e => ne.1 e.symm, nd.1⟩, ne.2, nd.2⟩
  · simp only [List.map_cons, List.mem_cons] at hb'
    rcases hb' with rfl | rfl | hb'
    · exact σ'.out _ (.head _)
    · exact ⟨hg, .inl (σ.ext.live hn)⟩
    · exact σ'.out b (.tail _ hb')
theorem ld_many (σ : S hb s0 mods g0 env ns vs led g s) {d : Addr} {m : Int} {value slice : Expr} {t : Tok} {Q : Value → Shared → Prop} (hm : Mem led d (IsSt prog w m))
    (h : ∀ tk s', S hb s0 mods g0 env ns vs led g s' → Q (.int m tk) s')
    (hs : subscripted slice false (.ref d) (.str n_many t) = operate [.ref d, .str n_many t] (getItem (.ref d) (.str n_many t)) := by with_unfolding_all rfl) : wpAny (model prog w) A (subscriptTail value slice (.ref d) (.str n_many t)) Q E s := by
  obtain ⟨o, e, loc, tk, tk', h0, h1, hd⟩ := σ.get hm
  exact ix_dict σ (knd := strKind prog w) (k := n_many) (Heap.dictOf_iff.mpr ⟨o, e, hd⟩) (strKind_is ..) (v := .int m tk') (by rw [valueAt_many]) (fun s' σ => h _ _ σ) hs
theorem d_two (σ : S hb s0 mods g0 env ns vs led g s) {x y : Str} {k1 k2 : Nat} {p1 p2 pos : Pos} {v1 v2 : Expr} {Q : Value → Shared → Prop} (hxy : x ≠ y)
    (h : ∀ d s', S hb s0 mods g0 env ns vs ((d, IsD (strKind prog w) []) :: led) g s' → s0.heap.get? d = none → wpAny (model prog w) A (eval v1 env) (fun u1 s₁ => ∃ vs1 led1 g1, S hb s0 mods g0 env ns vs1 led1 g1 s₁ ∧
      ∀ s₁', S hb s0 mods g0 env ns vs1 led1 g1 s₁' → wpAny (model prog w) A (eval v2 env) (fun u2 s₂ => ∃ vs2 led2 g2, S hb s0 mods g0 env ns vs2 ((d, IsD (strKind prog w) []) :: led2) g2 s₂ ∧
        ∀ s', S hb s0 mods g0 env ns vs2 ((d, IsD (strKind prog w) [(x, u1), (y, u2)]) :: led2) g2 s' → Q (.ref d) s') E s₁') E s') :
    wpAny (model prog w) A (eval (.Dict [some (.Constant (.str x) k1 p1), some (.Constant (.str y) k2 p2)] [v1, v2] pos) env) Q E s := by
  refine wpAny_Dict_walk (knd := strKind prog w) rfl rfl (by simp) (by simp) ?_
  obtain ⟨o, ho, hd⟩ := Heap.dictOf_iff.mp (Heap.DictOf.new (knd := strKind prog w) s.heap)
  have q := σ.alloc (a := s.heap.objs.size) (P := IsD (strKind prog w) []) (get_size _) (Ext.push (t := s.toks) (o := { cls := .type "dict", data := .dict #[] })) ho hd
  have hfr := σ.ext.live (get_size s.heap)
  generalize s.heap.objs.size = d at *
  refine pairTrees_cons_walk (e_str q fun t1 s1 σ1 => wpAny_mono (h d s1 σ1 hfr) (fun u1 s₁ hh => ?_) fun _ _ e => e)
  obtain ⟨vs1, led1, g1, σ2, k⟩ := hh
  refine pairTrees_cons_walk (e_str σ2 fun t2 s2 σ3 => wpAny_mono (k s2 σ3) (fun u2 s₂ hh => ?_) fun _ _ e => e)
  obtain ⟨vs2, led2, g2, σ4, k2⟩ := hh
  refine pairTrees_nil_walk ⟨[(x, u1), (y, u2)], ⟨strKind_is .., rfl, strKind_is .., rfl, trivial⟩, σ4.HD .head, fun h' hd' hs => ?_⟩
  have e : merged [] [(x, u1), (y, u2)] = [(x, u1), (y, u2)] := by
    simp [merged, stored, hxy]
  rw [e] at hd'
  refine k2 _ (σ4.modD .head (.same hs ?_) hd')
  obtain ⟨o', e', _⟩ := Heap.dictOf_iff.mp hd'
  rw [e']; exact Option.some_ne_none _
theorem swap_none {env : Env} {ns : List Str} (he : EnvOk env ns) {x y : Str} {p q tp : Pos} {k k' : Nat} {v1 v2 : Expr} {vp : Pos} {c : Addr} (hx : x ∈ ns) (ec : EC env y c) (h1 : ∀ e p, v1 ≠ .Starred e p) (h1' : ∀ e p, v2 ≠ .Starred e p) :
    swappedStores [.Tuple [.Name x p, .Name y q] k tp] (.Tuple [v1, v2] k' vp) env = pure none := by
  unfold swappedStores
  dsimp only
  rw [bk_of he]
  refine (if_neg Bool.false_ne_true).trans ?_
  refine (if_neg (by
    rw [Bool.not_eq_true]
    exact Bool.or_eq_false_iff.mpr ⟨not_star h1, Bool.or_eq_false_iff.mpr ⟨not_star h1', rfl⟩⟩)).trans ?_
  have e : ∀ {f : Expr → Option Str}, f (.Name x p) = some x → f (.Name y q) = none → [Expr.Name x p, Expr.Name y q].filterMap f = [x] := fun a b => by rw [List.filterMap_cons_some a, List.filterMap_cons_none b]; rfl
  rw [e (name_in (p := p) he hx rfl) (if_neg (by rw [ec.kind]; exact Bool.false_ne_true))]
  exact if_pos rfl
end
noncomputable def pA (v1 v2 v3 : Value) : Str → Option Value := setA (setA (setA (fun _ => none) n_plain v1) n_first v2) n_second v3
theorem pA_plain (v1 v2 v3 : Value) : pA v1 v2 v3 n_plain = some v1 := by with_unfolding_all rfl
theorem pA_first (v1 v2 v3 : Value) : pA v1 v2 v3 n_first = some v2 := by with_unfolding_all rfl
theorem pA_second (v1 v2 v3 : Value) : pA v1 v2 v3 n_second = some v3 := by with_unfolding_all rfl
theorem pA_parts (v1 v2 v3 : Value) : pA v1 v2 v3 "parts" = none := by with_unfolding_all rfl
noncomputable def PG (g : FH) (x C : Addr) (n : Nat) (f : Str → Option Value) : Prop := ∃ dx od, g x = some (instObj C dx) ∧ g dx = some od ∧ IsA n f od
theorem PG.mono {g g' : FH} {x C n f} (h : PG g x C n f) (le : GLe g g') : PG g' x C n f := let ⟨dx, od, a, b, c⟩ := h; ⟨dx, od, le _ _ a, le _ _ b, c⟩
section
variable {prog : Program} {w : World} {hb : Heap} {K : Frag}
variable {A : Around} {E : Value → Shared → Prop} {s0 : Shared} {mods : List Addr} {g0 g : FH} {env : Env} {ns : List Str} {vs : List (Option Value)} {led : Led} {s : Shared}
theorem S.PG (σ : S hb s0 mods g0 env ns vs led g s) {x C : Addr} {n : Nat} {f : Str → Option Value} (h : PG g x C n f) : Inst s x C n f := let ⟨dx, od, a, b, c⟩ := h; ⟨dx, od, σ.gin _ _ a, σ.gin _ _ b, c⟩
theorem S.PL (σ : S hb s0 mods g0 env ns vs led g s) {x C dx : Addr} {n : Nat} {f : Str → Option Value} (hx : g x = some (instObj C dx)) (m : Mem led dx (IsA n f)) : Inst s x C n f := let ⟨od, b, c⟩ := σ.get m; ⟨dx, od, σ.gin _ _ hx, b, c⟩

theorem pinit_c (W : Wld hb) (O : Wob hb K) {R : Result → Shared → Prop} (room : A.depth < recursionLimit) (hz : Frz hb g s) {x dx : Addr} {v1 v2 v3 : Value} {args : List Value} (hx : g x = some (instObj 209 dx))
    (hdx : ∃ o, s.heap.get? dx = some o ∧ IsA 0 (fun _ => none) o) (hg : g dx = none) (hbind : BindsTo s fd_pinit ⟨args, []⟩ [(n_self, .ref x), (n_plain, v1), (n_first, v2), (n_second, v3)])
    (k : ∀ s', Ext [dx] s s' → (∃ o, s'.heap.get? dx = some o ∧ IsA 3 (pA v1 v2 v3) o) → R (.ok (.ret .none)) s') :
    codeAny (model prog w) A (.call (.ref 186) ⟨args, []⟩) R s := by
  refine start (led := [(dx, IsA 0 fun _ => none)]) [dx] [(n_self, .ref x), (n_plain, v1), (n_first, v2), (n_second, v3)] [] []
    (ns := [n_self, n_plain, n_first, n_second]) (vs := [some (.ref x), some v1, some v2, some v3]) W.fn_pinit room hz hbind rfl rfl (by decide +kernel) (by simpa using hdx) (by simp) (by simpa using hg) ?_
  intro env E s₁ hG σ
  (show wpAny _ _ (execs (_ :: _) _) _ _ _; dsimp only [qn_BLOCK, qn_DROP, qn_ELSE, qn_END, qn_FUNCTION, qn_Func, qn_IF, qn_LOCAL_GET, qn_LOCAL_SET, qn_LOCAL_TEE, qn_LOOP, qn_Module, qn_Piece, qn__name__, qn_law_behind, qn_law_flat, qn_law_is_kept_right, qn_law_items, qn_law_join, qn_law_joined, qn_law_kept, qn_law_next, qn_law_pick, qn_law_run, qn_law_two, qn_wall, qn_ahead, qn_at, qn_body, qn_body_of, qn_codes, qn_deep, qn_due, qn_first, qn_found, qn_func, qn_given, qn_height, qn_here, qn_index, qn_inner, qn_int, qn_is_else, qn_items, qn_join_last, qn_join_locals, qn_k, qn_kept, qn_kind, qn_len, qn_list, qn_local, qn_locals_now, qn_many, qn_module, qn_name, qn_number, qn_one, qn_opened, qn_other, qn_out, qn_own, qn_params, qn_part, qn_parts_of, qn_piece, qn_pieces, qn_pieces_of, qn_place, qn_places, qn_plain, qn_property, qn_put_pieces, qn_range, qn_read, qn_rest, qn_script, qn_second, qn_self, qn_sign, qn_sort, qn_stack, qn_state, qn_sum, qn_tape, qn_thing, qn_things, qn_told, qn_tuple, qn_turn, qn_two, qn_values, qn_way, qn_without_locals, qn_word])
  walk_at "W"
  refine a_set σ O.kin O.P (σ.gin _ _ hx) .head (by decide) (by decide +kernel) ?_
  clear σ; intro s₂ σ
  walk_at "W"
  refine a_set σ O.kin O.P (σ.gin _ _ hx) .head (by decide) (by decide +kernel) ?_
  clear σ; intro s₃ σ
  walk_at "W"
  refine a_set σ O.kin O.P (σ.gin _ _ hx) .head (by decide) (by decide +kernel) ?_
  clear σ; intro s₄ σ
  walk_at "W"
  exact k _ σ.ext (σ.get .head)

theorem binds2 (O : Wob hb K) (hbs : ∀ a o, hb.get? a = some o → s.heap.get? a = some o) {x v1 v2 : Value} : BindsTo s fd_pinit ⟨[x, v1, v2], []⟩ [(n_self, x), (n_plain, v1), (n_first, v2), (n_second, .none)] := by
  obtain ⟨o, n, h1, h2⟩ := O.dflt
  exact BindsTo.of_defaults (T := 179) rfl (hbs _ _ h1) h2 rfl rfl
theorem binds1 (O : Wob hb K) (hbs : ∀ a o, hb.get? a = some o → s.heap.get? a = some o) {x v1 : Value} : BindsTo s fd_pinit ⟨[x, v1], []⟩ [(n_self, x), (n_plain, v1), (n_first, .none), (n_second, .none)] := by
  obtain ⟨o, n, h1, h2⟩ := O.dflt
  exact BindsTo.of_defaults (T := 179) rfl (hbs _ _ h1) h2 rfl rfl

theorem k_piece (W : Wld hb) (O : Wob hb K) (σ : S hb s0 mods g0 env ns vs led g s) (room : Room 3 A) {rest : List Value} {v1 v2 : Value} (hr : rest = [v1] ∧ v2 = .none ∨ rest = [v1, v2]) {Q : Value → Shared → Prop}
    (h : ∀ x dx g' s', S hb s0 mods g0 env ns vs ((dx, IsA 3 (pA v1 v2 .none)) :: led) g' s' → GLe g g' → g' x = some (instObj 209 dx) → s0.heap.get? dx = none → Q (.ref x) s') :
    wpAny (model prog w) A (call (.ref 209) rest) Q E s := by
  refine k_make σ O.kin O.P ?_
  clear σ; intro x dx s₁ σ hf le
  have R1 : Room 2 (A.under (.builtin "type.__call__" ⟨.ref 209 :: rest, []⟩)) := room_under room
  have hb2 : BindsTo s₁ fd_pinit ⟨.ref x :: rest, []⟩ [(n_self, .ref x), (n_plain, v1), (n_first, v2), (n_second, .none)] := by
    rcases hr with ⟨rfl, rfl⟩ | rfl
    · exact binds1 O σ.hbs
    · exact binds2 O σ.hbs
  refine pinit_c W O (room_depth R1) σ.fz FH.put_self (σ.get .head) (σ.gl .head) hb2 fun s' xx hd => ⟨rfl, rv ?_⟩
  obtain ⟨o, e, i⟩ := hd
  exact h _ _ _ _ (σ.mod .head xx e i) le FH.put_self hf

theorem pcode_c (W : Wld hb) (O : Wob hb K) {R : Result → Shared → Prop} (room : Room 1 A) (hz : Frz hb g s) {x p : Addr} {n : Nat} {v2 v3 : Value} {c : Int} {tk : Tok} {q : List Value} (hx : PG g x 209 n (pA (.ref p) v2 v3)) (hp : TG g p (.int c tk :: q))
    (k : ∀ s', Ext [] s s' → R (.ok (.ret (.int c tk))) s') : codeAny (model prog w) A (.call (.ref 193) ⟨[.ref x], []⟩) R s := by
  refine start (led := []) [] [(n_self, .ref x)] [] [] (ns := [n_self]) (vs := [some (.ref x)]) W.fn_pcode (room_depth room) hz (BindsTo.of_eq rfl) rfl rfl (by decide +kernel) (by simp) (by simp) (by simp) ?_
  intro env E s₁ hG σ
  (show wpAny _ _ (execs (_ :: _) _) _ _ _; dsimp only [qn_BLOCK, qn_DROP, qn_ELSE, qn_END, qn_FUNCTION, qn_Func, qn_IF, qn_LOCAL_GET, qn_LOCAL_SET, qn_LOCAL_TEE, qn_LOOP, qn_Module, qn_Piece, qn__name__, qn_law_behind, qn_law_flat, qn_law_is_kept_right, qn_law_items, qn_law_join, qn_law_joined, qn_law_kept, qn_law_next, qn_law_pick, qn_law_run, qn_law_two, qn_wall, qn_ahead, qn_at, qn_body, qn_body_of, qn_codes, qn_deep, qn_due, qn_first, qn_found, qn_func, qn_given, qn_height, qn_here, qn_index, qn_inner, qn_int, qn_is_else, qn_items, qn_join_last, qn_join_locals, qn_k, qn_kept, qn_kind, qn_len, qn_list, qn_local, qn_locals_now, qn_many, qn_module, qn_name, qn_number, qn_one, qn_opened, qn_other, qn_out, qn_own, qn_params, qn_part, qn_parts_of, qn_piece, qn_pieces, qn_pieces_of, qn_place, qn_places, qn_plain, qn_property, qn_put_pieces, qn_range, qn_read, qn_rest, qn_script, qn_second, qn_self, qn_sign, qn_sort, qn_stack, qn_state, qn_sum, qn_tape, qn_thing, qn_things, qn_told, qn_tuple, qn_turn, qn_two, qn_values, qn_way, qn_without_locals, qn_word])
  walk_at "W"
  refine a_own σ O.kin O.P (σ.PG hx) (by decide +kernel) (pA_plain ..) rfl ?_
  clear σ; intro s₂ σ
  walk_at "W"
  exact k _ σ.ext

theorem pparts_c (W : Wld hb) (O : Wob hb K) {R : Result → Shared → Prop} (room : Room 1 A) (hz : Frz hb g s) {x : Addr} {n : Nat} {v1 v2 v3 : Value} (hx : PG g x 209 n (pA v1 v2 v3)) (h2 : v2 = .none ∨ ∃ b, v2 = .ref b) (h3 : v3 = .none ∨ ∃ b, v3 = .ref b)
    (k : ∀ s' g' c, Ext [] s s' → Grown g s g' s' → LG g' c ([v2, v3].filter (· != .none)) → R (.ok (.ret (.ref c))) s') : codeAny (model prog w) A (.call (.ref 199) ⟨[.ref x], []⟩) R s := by
  refine start (led := []) [] [(n_self, .ref x)] [] [] (ns := [n_self]) (vs := [some (.ref x)]) W.fn_pparts (room_depth room) hz (BindsTo.of_eq rfl) rfl rfl (by decide +kernel) (by simp) (by simp) (by simp) ?_
  intro env E s₁ hG σ
  have hA : (A.deeper env).handled = none := room.1
  (show wpAny _ _ (execs (_ :: _) _) _ _ _; dsimp only [qn_BLOCK, qn_DROP, qn_ELSE, qn_END, qn_FUNCTION, qn_Func, qn_IF, qn_LOCAL_GET, qn_LOCAL_SET, qn_LOCAL_TEE, qn_LOOP, qn_Module, qn_Piece, qn__name__, qn_law_behind, qn_law_flat, qn_law_is_kept_right, qn_law_items, qn_law_join, qn_law_joined, qn_law_kept, qn_law_next, qn_law_pick, qn_law_run, qn_law_two, qn_wall, qn_ahead, qn_at, qn_body, qn_body_of, qn_codes, qn_deep, qn_due, qn_first, qn_found, qn_func, qn_given, qn_height, qn_here, qn_index, qn_inner, qn_int, qn_is_else, qn_items, qn_join_last, qn_join_locals, qn_k, qn_kept, qn_kind, qn_len, qn_list, qn_local, qn_locals_now, qn_many, qn_module, qn_name, qn_number, qn_one, qn_opened, qn_other, qn_out, qn_own, qn_params, qn_part, qn_parts_of, qn_piece, qn_pieces, qn_pieces_of, qn_place, qn_places, qn_plain, qn_property, qn_put_pieces, qn_range, qn_read, qn_rest, qn_script, qn_second, qn_self, qn_sign, qn_sort, qn_stack, qn_state, qn_sum, qn_tape, qn_thing, qn_things, qn_told, qn_tuple, qn_turn, qn_two, qn_values, qn_way, qn_without_locals, qn_word])
  walk_at "W"
  refine' e_comp σ ?a1 rfl ?a2 ?a3 ?a4 ?a5 ?_ ?a6
  case a1 => decide +kernel
  case a2 => decide +kernel
  case a3 => decide +kernel
  case a4 => decide +kernel
  case a5 => exact hf_of [] (by decide +kernel) trivial
  case a6 => intro _; with_unfolding_all rfl
  walk_at "W"
  refine a_own σ O.kin O.P (σ.PG hx) (by decide +kernel) (pA_first ..) (by rcases h2 with rfl | ⟨b, rfl⟩ <;> rfl) ?_
  clear σ; intro s₂ σ
  walk_at "W"
  refine a_own σ O.kin O.P (σ.PG hx) (by decide +kernel) (pA_second ..) (by rcases h3 with rfl | ⟨b, rfl⟩ <;> rfl) ?_
  clear σ; intro s₃ σ
  walk_at "W"
  refine iter_of_tuple σ (σ.HT htg) ?_
  clear σ; intro it s₄ σ hit
  refine ⟨it, _, _, _, _, _, _, _, fun j acc _ => acc = ([v2, v3].take j).filter (· != .none), rfl, iter_tuple (xs := [v2, v3]) hA, σ, hit, by with_unfolding_all exact Nat.le_of_ble_eq_true rfl, ?_, rfl, ?_, ?_⟩
  · clear σ
    rintro g' s' le ⟨_, _, _, _, σ⟩
    exact σ.HT (htg.mono le)
  · clear σ
    intro j acc g' v D C s' E' hj hv hJ hle _ σ
    have e : (([v2, v3].take (j + 1)).filter (· != .none)) = acc ++ (if v != .none then [v] else []) := by
      rw [hJ, List.take_add_one, hv, List.filter_append]
      cases hq : (v != Value.none) <;> simp [hq]
    have hv' : v = .none ∨ ∃ b, v = .ref b := by
      have := List.mem_of_getElem? hv
      simp only [List.mem_cons, List.mem_nil_iff, or_false] at this
      rcases this with rfl | rfl
      · exact h2
      · exact h3
    refine ifs_one ?_
    rcases hv' with rfl | ⟨b, rfl⟩
    · walk_at "W"
      rw [if_neg (by decide)]
      exact ⟨_, .refl, by show acc = List.filter _ _; rw [e]; exact (List.append_nil _).symm, σ⟩
    · walk_at "W"
      rw [if_pos rfl]
      walk_at "W"
      exact ⟨_, .refl, by show _ = List.filter _ _; rw [e]; rfl, σ⟩
  · clear σ
    intro acc g' D hJ hle hal hD s' σ
    obtain ⟨g₂, le2, hlg, σ⟩ := σ.frzL (.refl _) hD
    have : acc = [v2, v3].filter (· != .none) := hJ
    rw [this] at hlg
    exact k _ _ _ σ.ext σ.grownOf hlg
end
noncomputable def PP (g : FH) (x : Addr) (v1 v2 v3 : Value) : Prop := ∃ n, n ≤ 10 ∧ PG g x 209 n (pA v1 v2 v3)
theorem PP.mono {g g' : FH} {x v1 v2 v3} (h : PP g x v1 v2 v3) (le : GLe g g') : PP g' x v1 v2 v3 := let ⟨n, a, b⟩ := h; ⟨n, a, b.mono le⟩
inductive PsV (g : FH) : Led → List Value → List Node → Prop
  | nil : PsV g [] [] []
  | leaf {x p op L vs ns} : PP g x (.ref p) .none .none → OpG g p op → PsV g L vs ns → PsV g L (.ref x :: vs) (.leaf op :: ns)
  | one {x p b op L1 xs l L vs ns} : PP g x (.ref p) (.ref b) .none → OpG g p op → PsV g L1 xs l → PsV g L vs ns → PsV g ((b, IsL xs) :: (L1 ++ L)) (.ref x :: vs) (.one op l :: ns)
  | two {x p b c op L1 xs l L2 ys k L vs ns} : PP g x (.ref p) (.ref b) (.ref c) → OpG g p op → PsV g L1 xs l → PsV g L2 ys k → PsV g L vs ns → PsV g ((b, IsL xs) :: (L1 ++ ((c, IsL ys) :: (L2 ++ L)))) (.ref x :: vs) (.two op l k :: ns)
theorem PsV.mono {g g' : FH} (le : GLe g g') {L vs ns} (h : PsV g L vs ns) : PsV g' L vs ns := by
  induction h with
  | nil => exact .nil
  | leaf a b _ ih => exact .leaf (a.mono le) (b.mono le) ih
  | one a b _ _ i1 i2 => exact .one (a.mono le) (b.mono le) i1 i2
  | two a b _ _ _ i1 i2 i3 => exact .two (a.mono le) (b.mono le) i1 i2 i3
theorem PsV.append {g : FH} {L vs ns} (h : PsV g L vs ns) : ∀ {L' vs' ns'}, PsV g L' vs' ns' → PsV g (L ++ L') (vs ++ vs') (ns ++ ns') := by
  induction h with
  | nil => intro _ _ _ h; exact h
  | leaf a b _ ih => intro _ _ _ h; exact .leaf a b (ih h)
  | one a b x _ i1 i2 => intro _ _ _ h; have := PsV.one a b x (i2 h); simpa using this
  | two a b x y _ i1 i2 i3 => intro _ _ _ h; have := PsV.two a b x y (i3 h); simpa using this
theorem PsV.length {g : FH} {L vs ns} (h : PsV g L vs ns) : vs.length = ns.length := by
  induction h with
  | nil => rfl
  | leaf _ _ _ ih => simp [ih]
  | one _ _ _ _ _ ih => simp [ih]
  | two _ _ _ _ _ _ _ ih => simp [ih]
inductive Zv (g : FH) : Addr → List Value → Led → List Opn → Prop
  | root {h} : Zv g h [] [] []
  | fst {b x dx p op u ups Lu ul t vs L fs} : g x = some (instObj 209 dx) → OpG g p op → TG g t [.ref x, .ref u] → PsV g Lu ups ul → Zv g u vs L fs →
      Zv g b (.ref t :: vs) ((dx, IsA 3 (pA (.ref p) (.ref b) .none)) :: (u, IsL (ups ++ [.ref x])) :: (Lu ++ L)) (⟨op, none, ul⟩ :: fs)
  | snd {c b x dx p op fxs Lf fl u ups Lu ul t vs L fs} : g x = some (instObj 209 dx) → OpG g p op → TG g t [.ref x, .ref u] → PsV g Lf fxs fl → PsV g Lu ups ul → Zv g u vs L fs →
      Zv g c (.ref t :: vs) ((dx, IsA 4 (pA (.ref p) (.ref b) (.ref c))) :: (b, IsL fxs) :: (Lf ++ ((u, IsL (ups ++ [.ref x])) :: (Lu ++ L)))) (⟨op, some fl, ul⟩ :: fs)
theorem Zv.mono {g g' : FH} (le : GLe g g') {h vs L fs} (z : Zv g h vs L fs) : Zv g' h vs L fs := by
  induction z with
  | root => exact .root
  | fst a b c d _ ih => exact .fst (le _ _ a) (b.mono le) (c.mono le) (d.mono le) ih
  | snd a b c d e _ ih => exact .snd (le _ _ a) (b.mono le) (c.mono le) (d.mono le) (e.mono le) ih
theorem zr_else_inv {op r cur fs l} (h : op.headD 0 = 5) (z : zrun (op :: r) cur fs = some l) : ∃ o up q, fs = ⟨o, none, up⟩ :: q ∧ zrun r [] (⟨o, some cur, up⟩ :: q) = some l := by
  match fs, z with
  | ⟨o, none, up⟩ :: q, z => exact ⟨o, up, q, rfl, by rw [← z, zr_else h]⟩
  | ⟨o, some f, up⟩ :: q, z =>
    have e : zrun (op :: r) cur (⟨o, some f, up⟩ :: q) = none := by rw [zrun.eq_def]; exact (if_neg (by lia)).trans (if_pos h)
    rw [e] at z; cases z
  | [], z =>
    have e : zrun (op :: r) cur [] = none := by rw [zrun.eq_def]; exact (if_neg (by lia)).trans (if_pos h)
    rw [e] at z; cases z
theorem zr_end_inv {op r cur fs l} (h : op.headD 0 = 11) (z : zrun (op :: r) cur fs = some l) : (∃ o up q, fs = ⟨o, none, up⟩ :: q ∧ zrun r (up ++ [.one o cur]) q = some l) ∨ ∃ o f up q, fs = ⟨o, some f, up⟩ :: q ∧ zrun r (up ++ [.two o f cur]) q = some l := by
  match fs, z with
  | ⟨o, none, up⟩ :: q, z => exact .inl ⟨o, up, q, rfl, by rw [← z, zr_end1 h]⟩
  | ⟨o, some f, up⟩ :: q, z => exact .inr ⟨o, f, up, q, rfl, by rw [← z, zr_end2 h]⟩
  | [], z =>
    have e : zrun (op :: r) cur [] = none := by rw [zrun.eq_def]; exact (if_neg (by lia)).trans ((if_neg (by lia)).trans (if_pos h))
    rw [e] at z; cases z
theorem setA_second (v1 v2 v : Value) : setA (pA v1 v2 .none) n_second v = pA v1 v2 v := by
  funext y; unfold pA setA; split <;> rfl
theorem OpsV.take {g : FH} {xs l} (i : Nat) (x : OpsV g xs l) : OpsV g (xs.take i) (l.take i) := by
  induction x generalizing i with
  | nil => rw [List.take_nil, List.take_nil]; exact .nil
  | cons a _ ih =>
    cases i with
    | zero => exact .nil
    | succ i => exact .cons a (ih i)
section
variable {prog : Program} {w : World} {hb : Heap} {K : Frag}
variable {s0 : Shared} {mods : List Addr} {g0 g : FH} {env : Env} {ns : List Str} {vs : List (Option Value)} {led : Led} {s s' : Shared}
theorem S.perm (σ : S hb s0 mods g0 env ns vs led g s) {led' : Led} (hp : led.Perm led') : S hb s0 mods g0 env ns vs led' g s where
  eok := σ.eok
  nsl := σ.nsl
  lok p h := σ.lok p (hp.mem_iff.mpr h)
  nodup := ((hp.map (·.1)).cons env.locals).nodup_iff.mp σ.nodup
  out a h := σ.out a (by
    rcases List.mem_cons.mp h with rfl | h
    · exact .head _
    · exact .tail _ ((hp.map (·.1)).mem_iff.mpr h))
  hbg := σ.hbg
  gin := σ.gin
  ggr := σ.ggr
  gnew := σ.gnew
  ext := σ.ext
structure NewL (s s' : Shared) (g' : FH) (L : Led) : Prop where
  ok : ∀ p ∈ L, ∃ o, s'.heap.get? p.1 = some o ∧ p.2 o
  nodup : (L.map (·.1)).Nodup
  new : ∀ p ∈ L, s.heap.get? p.1 = none ∧ g' p.1 = none
theorem S.newL (σ : S hb s0 [] g0 env ns vs led g s) {L : Led} (h : L.Sublist led) : NewL s0 s g L := by
  have nd := (List.nodup_cons.mp σ.nodup).2
  refine ⟨fun p hp => σ.lok p (h.subset hp), nd.sublist (h.map _), fun p hp => ?_⟩
  have := σ.out p.1 (.tail _ (List.mem_map.mpr ⟨p, h.subset hp, rfl⟩))
  exact ⟨this.2.resolve_right (by simp), this.1⟩
theorem S.adopt (σ : S hb s0 mods g0 env ns vs led g s) (x : Ext [] s s') {g' : FH} (y : Grown g s g' s') {L : Led} (n : NewL s s' g' L) : S hb s0 mods g0 env ns vs (L ++ led) g' s' := by
  have σ' := σ.growN x y
  have nd := σ.nodup
  have old : ∀ a ∈ env.locals :: led.map (·.1), ∀ p ∈ L, p.1 ≠ a := fun a ha p hp e => by
    obtain ⟨o, ho⟩ := σ.there ha
    have := (n.new p hp).1
    rw [e, ho] at this; cases this
  refine ⟨σ'.eok, σ'.nsl, fun p hp => ?_, ?_, fun a ha => ?_, σ'.hbg, σ'.gin, σ'.ggr, σ'.gnew, σ'.ext⟩
  · rcases List.mem_append.mp hp with hp | hp
    · exact n.ok p hp
    · exact σ'.lok p hp
  · rw [List.map_append]
    refine List.nodup_cons.mpr ⟨fun q => ?_, List.nodup_append.mpr ⟨n.nodup, (List.nodup_cons.mp nd).2, fun a ha b hb e => ?_⟩⟩
    · rcases List.mem_append.mp q with q | q
      · obtain ⟨p, hp, e⟩ := List.mem_map.mp q; exact old _ (.head _) p hp e
      · exact (List.nodup_cons.mp nd).1 q
    · obtain ⟨p, hp, e'⟩ := List.mem_map.mp ha
      exact old b (.tail _ hb) p hp (e'.trans e)
  · rw [List.map_append] at ha
    rcases List.mem_cons.mp ha with rfl | ha
    · exact σ'.out _ (.head _)
    · rcases List.mem_append.mp ha with ha | ha
      · obtain ⟨p, hp, rfl⟩ := List.mem_map.mp ha
        exact ⟨(n.new p hp).2, .inl (σ.ext.live (n.new p hp).1)⟩
      · exact σ'.out a (.tail _ ha)

theorem S.fresh0 (σ : S hb s0 [] g0 env ns vs led g s) {a : Addr} {P : Obj → Prop} (m : Mem led a P) : s0.heap.get? a = none :=
  (σ.out a (.tail _ (List.mem_map.mpr ⟨_, m.mem, rfl⟩))).2.resolve_right (by simp)
theorem Mem.of_mem : ∀ {l : Led} {a : Addr} {P : Obj → Prop}, (a, P) ∈ l → Mem l a P
  | _ :: _, _, _, h => by
    rcases List.mem_cons.mp h with rfl | h
    · exact .head
    · exact .tail (Mem.of_mem h)
theorem S.frzA (σ : S hb s0 mods g0 env ns vs led g s) {x dx : Addr} {n : Nat} {v1 v2 v3 : Value} {led' : Led} (hp : led.Perm ((dx, IsA n (pA v1 v2 v3)) :: led')) (hf : s0.heap.get? dx = none) (hx : g x = some (instObj 209 dx)) (hn : n ≤ 10) :
    ∃ g', GLe g g' ∧ PP g' x v1 v2 v3 ∧ S hb s0 mods g0 env ns vs led' g' s :=
  let ⟨_, h, _, σ', le⟩ := σ.frz hp hf; ⟨_, le, ⟨n, hn, dx, _, le _ _ hx, FH.put_self, h⟩, σ'⟩
theorem pieces_of_c (W : Wld hb) (O : Wob hb K) {A : Around} {g : FH} {s : Shared} {R : Result → Shared → Prop} (room : Room 5 A) (hz : Frz hb g s) {a : Addr} {xs : List Value} {ops : List (List Int)} (ha : LG g a xs) (hv : OpsV g xs (ops ++ [[11]])) (hok : OpsOk ops) (hlen : ops.length ≤ 5500)
    {l : List Node} (hz' : zrun ops [] [] = some l)
    (cont : ∀ s' g' h ys L, Ext [] s s' → Grown g s g' s' → PsV g' L ys l → NewL s s' g' ((h, IsL ys) :: L) → R (.ok (.ret (.ref h))) s') :
    codeAny (model prog w) A (.call (.ref 220) ⟨[.ref a], []⟩) R s := by
  refine start (led := []) [] [(n_body, .ref a)] [n_here, n_opened, n_plain, n_piece] [n_len, n_BLOCK, n_LOOP, n_IF, n_ELSE, n_END, n_Piece]
    (ns := [n_body, n_here, n_opened, n_plain, n_piece]) (vs := [some (.ref a), none, none, none, none]) W.fn_wpieces_of (room_depth room) hz (BindsTo.of_eq rfl) rfl rfl (by decide +kernel) (by simp) (by simp) (by simp) ?_
  intro env E s₁ hG σ
  have R1 : Room 4 (A.deeper env) := room.deeper
  have hA : (A.deeper env).handled = none := room.1
  have hxl := hv.length
  simp only [List.length_append, List.length_cons, List.length_nil] at hxl
  have hsl : sizeLine = 16777216 := rfl
  (show wpAny _ _ (execs (_ :: _) _) _ _ _; dsimp only [qn_BLOCK, qn_DROP, qn_ELSE, qn_END, qn_FUNCTION, qn_Func, qn_IF, qn_LOCAL_GET, qn_LOCAL_SET, qn_LOCAL_TEE, qn_LOOP, qn_Module, qn_Piece, qn__name__, qn_law_behind, qn_law_flat, qn_law_is_kept_right, qn_law_items, qn_law_join, qn_law_joined, qn_law_kept, qn_law_next, qn_law_pick, qn_law_run, qn_law_two, qn_wall, qn_ahead, qn_at, qn_body, qn_body_of, qn_codes, qn_deep, qn_due, qn_first, qn_found, qn_func, qn_given, qn_height, qn_here, qn_index, qn_inner, qn_int, qn_is_else, qn_items, qn_join_last, qn_join_locals, qn_k, qn_kept, qn_kind, qn_len, qn_list, qn_local, qn_locals_now, qn_many, qn_module, qn_name, qn_number, qn_one, qn_opened, qn_other, qn_out, qn_own, qn_params, qn_part, qn_parts_of, qn_piece, qn_pieces, qn_pieces_of, qn_place, qn_places, qn_plain, qn_property, qn_put_pieces, qn_range, qn_read, qn_rest, qn_script, qn_second, qn_self, qn_sign, qn_sort, qn_stack, qn_state, qn_sum, qn_tape, qn_thing, qn_things, qn_told, qn_tuple, qn_turn, qn_two, qn_values, qn_way, qn_without_locals, qn_word])
  (refine' xs_swap2 σ ?k1 ?k2 ?k3 ?k4 ?k5 ?k6 ?k7 ?k8 ?_ ?k9; (case k1 => walk_at "in"); (case k2 => walk_at "in"); (case k3 => decide); (case k4 => rfl); (case k5 => intro _ _ q; cases q); (case k6 => intro _ _ q; cases q); (case k7 => decide +kernel); (case k8 => decide +kernel); (case k9 => with_unfolding_all rfl))
  walk_at "W"
  refine xs_for ?_ (by intro _; with_unfolding_all rfl)
  walk_at "W"
  refine e_bfun1 σ hG W.bv_len (by walk_at "in") ?_
  walk_at "W"
  refine k_len σ (σ.HLg (ha.mono (by walk_at "gle"))) (by lia) ?_
  clear σ; intro tn s₂ σ
  walk_at "W"
  (refine ⟨_, _, _, σ, ?_⟩; clear σ; intro sa gsl _ σ hgs hsg)
  refine sl_list σ (σ.HLg (ha.mono (by walk_at "gle"))) hsg .none (.int _ _) (by lia) (pick_upto xs (by lia) (by lia)) ?_
  clear σ; intro c3 s₃ σ hf3
  obtain ⟨g₁, le1, hlg, σ⟩ := σ.frzL (.refl _) hf3
  rcases (⟨la, rfl⟩ : ∃ x, x = la) with ⟨oa, rfl⟩
  have hlx : ((xs.length : Int) - 1).toNat = ops.length := by rw [hxl]; exact congrArg Int.toNat (Int.add_sub_cancel (ops.length : Int) 1)
  rw [hlx] at hlg
  have hv1 : OpsV g₁ (xs.take ops.length) ops := by
    have := (hv.take ops.length).mono (show GLe g g₁ by walk_at "gle")
    simpa using this
  have leg : GLe g g₁ := by walk_at "gle"
  have hxl1 := hv1.length
  refine for_list σ hA c3 (xs.take ops.length) (fun i vs' led' g' => ∃ (h : Addr) (ys : List Value) (cur : List Node) (fs : List Opn) (vo : List Value) (L Lc : Led) (x3 x4 : Option Value),
      vs' = [some (.ref a), some (.ref h), some (.ref oa), x3, x4] ∧ led' = (oa, IsL vo.reverse) :: (h, IsL ys) :: (Lc ++ L) ∧ GLe g₁ g' ∧ PsV g' Lc ys cur ∧ Zv g' h vo L fs ∧ zrun (ops.drop i) cur fs = some l ∧ cur.length + (fs.map fun f => f.up.length + 1).sum ≤ i ∧ vo.length ≤ i)
    ?_ ⟨_, [], [], [], [], [], [], _, _, rfl, rfl, .refl, .nil, .root, hz', by simp, Nat.le_refl _⟩ ?_ ?_ (.inl ⟨_, _, rfl⟩)
  · rintro i _ _ g' s' ⟨_, _, _, _, _, _, _, _, _, rfl, rfl, le, _⟩ σ
    exact σ.HLg (hlg.mono le)
  · clear σ
    rintro i v s₄ _ _ g₂ it E₂ TT hK hT hx ⟨h, ys, cur, fs, vo, L, Lc, x3, x4, rfl, rfl, le, hps, hzv, hzr, hyc, hy2⟩ σ
    have fN := fun h ys cur fs vo L Lc x3 x4 s₃ g'' h1 h2 h3 h4 h5 h6 σ => hK s₃ _ _ g'' ⟨h, ys, cur, fs, vo, L, Lc, x3, x4, rfl, rfl, h1, h2, h3, h4, h5, h6⟩ σ
    clear hK
    have hy1 : ys.length ≤ i := Nat.le_trans (Nat.le_of_eq hps.length) (Nat.le_trans (Nat.le_add_right _ _) hyc)
    obtain ⟨p, op, rfl, hop, hpo⟩ := hv1.get hx
    have hi : i < ops.length := by
      rcases Nat.lt_or_ge i ops.length with q | q
      · exact q
      · rw [List.getElem?_eq_none q] at hop; cases hop
    have hdr : ops.drop i = op :: ops.drop (i + 1) := by
      rw [List.drop_eq_getElem_cons hi]; rw [List.getElem?_eq_getElem hi] at hop; simp at hop; rw [hop]
    rw [hdr] at hzr
    have hne := hok op (List.mem_of_getElem? hop)
    cases op with
    | nil => exact absurd rfl hne
    | cons c t =>
    replace hpo := hpo.mono le
    obtain ⟨po, hpt, hpi⟩ := id hpo
    cases hpi with | cons _ tk hpi =>
    rename_i q1
    walk_at "W"
    refine xs_if ?_
    walk_at "W"
    refine c_in_ints (σ.HT htg) (.cons 2 _ (.cons 3 _ (.cons 4 _ .nil))) ?_
    have hin : ([2, 3, 4] : List Int).any (· == c) = decide (c = 2 ∨ c = 3 ∨ c = 4) := by
      rw [Bool.eq_iff_iff]; simp only [List.any_cons, List.any_nil, Bool.or_false, Bool.or_eq_true, beq_iff_eq, decide_eq_true_eq]; exact or_congr eq_comm (or_congr eq_comm eq_comm)
    rw [hin]
    refine tr_bool ?_
    replace hpt := hpt.mono hgg
    replace hpo := hpo.mono hgg
    by_cases h1 : c = 2 ∨ c = 3 ∨ c = 4
    · refine sp_ct ?_ h1
      rw [zr_open (by simpa using h1)] at hzr
      walk_at "W"
      refine e_make σ hG O.kin O.P W.gv_Piece (by walk_at "in") ?_
      walk_at "W"
      rcases (⟨la, rfl⟩ : ∃ x, x = la) with ⟨nl, rfl⟩
      have hggA := hgg
      refine ⟨σ.hbs, k_piece W O σ R1.le (.inr rfl) ?_⟩
      clear σ; intro x dx g₅ s₅ σ le5 hgx hfd
      walk_at "W"
      refine m_append ?_
      walk_at "W"
      refine ⟨_, _, rfl, σ.HL (.tail (.tail (.tail (.tail .head)))), ?_⟩
      walk_at "W"
      refine ⟨_, σ.HL (.tail (.tail (.tail (.tail .head)))), by lia, fun s₆ xx hx6 => ?_⟩
      replace σ := σ.modL (.tail (.tail (.tail (.tail .head)))) xx hx6
      walk_at "W"
      refine m_append ?_
      walk_at "W"
      refine ⟨_, _, rfl, σ.HL (.tail (.tail (.tail .head))), ?_⟩
      walk_at "W"
      refine ⟨_, σ.HL (.tail (.tail (.tail .head))), by simp; lia, fun s₆ xx hx6 => ?_⟩
      replace σ := σ.modL (.tail (.tail (.tail .head))) xx hx6
      walk_at "W"
      have hgg2 := hgg
      have htg2 := htg
      refine a_own σ O.kin O.P (σ.PL (hgg2 _ _ hgx) .head) (by decide +kernel) (pA_first ..) rfl ?_
      clear σ; intro s₇ σ
      walk_at "W"
      have leB := le5.trans hgg2
      have leA := hggA.trans leB
      refine fN nl ([]) ([]) _ (.ref ta :: vo) _ ([]) _ _ _ _ (le.trans leA) .nil (.fst (dx := dx) (hgg2 _ _ hgx) (hpo.mono leB) htg2 (hps.mono leA) (hzv.mono leA)) hzr (by simp only [List.map_cons, List.sum_cons, List.length_nil]; lia) (by simp; lia) (σ.perm ?_)
      · simp only [List.reverse_cons, List.nil_append]; (classical (rw [List.perm_iff_count]; intro x; simp only [List.count_cons, List.count_append, List.count_nil]; lia))
    · refine sp_cf ?_ h1
      refine xs_if ?_
      walk_at "W"
      by_cases h5 : c = 5
      · refine sp_ct ?_ h5
        obtain ⟨o0, up0, q0, rfl, hzn⟩ := zr_else_inv (by simpa using h5) hzr
        simp only [List.map_cons, List.sum_cons] at hyc
        cases hzv with | fst hgx hop0 htt hup hzv =>
        rename_i x dx p0 u ups Lu t0 vo L
        replace htt := htt.mono hgg
        simp only [List.length_cons] at hy2
        walk_at "W"
        refine ix_list_neg (σ.HL (.tail .head)) (by decide) (by simp; lia) (by decide) (x := .ref t0) (by rw [List.reverse_cons, neg1L]; simp) ?_
        walk_at "W"
        rcases (⟨la, rfl⟩ : ∃ x, x = la) with ⟨nl, rfl⟩
        replace σ := σ.perm (led' := (dx, IsA 3 (pA (.ref p0) (.ref h) .none)) :: (nl, IsL []) :: (it, IsLI c3 (i + 1)) :: (oa, IsL (Value.ref t0 :: vo).reverse) :: (h, IsL ys) :: (Lc ++ ((u, IsL (ups ++ [.ref x])) :: (Lu ++ L)))) (by (classical (rw [List.perm_iff_count]; intro x; simp only [List.count_cons, List.count_append, List.count_nil]; lia)))
        have hxx := hgg _ _ hgx
        refine a_set σ O.kin O.P (σ.gin _ _ hxx) .head (by decide) (by decide +kernel) ?_
        clear σ; intro s₆ σ
        rw [setA_second] at σ
        simp only [Nat.reduceAdd] at σ
        walk_at "W"
        refine a_own σ O.kin O.P (σ.PL hxx .head) (by decide +kernel) (pA_second ..) rfl ?_
        clear σ; intro s₇ σ
        walk_at "W"
        refine fN nl ([]) ([]) _ (.ref t0 :: vo) _ ([]) _ _ _ _ (le.trans hgg) .nil (.snd (b := h) (dx := dx) hxx (hop0.mono hgg) htt (hps.mono hgg) (hup.mono hgg) (hzv.mono hgg)) hzn (by simp only [List.map_cons, List.sum_cons, List.length_nil]; lia) (by simp; lia) (σ.perm ?_)
        simp only [List.nil_append]; (classical (rw [List.perm_iff_count]; intro x; simp only [List.count_cons, List.count_append, List.count_nil]; lia))
      · refine sp_cf ?_ h5
        refine xs_if ?_
        walk_at "W"
        by_cases h11 : c = 11
        · refine sp_ct ?_ h11
          rcases zr_end_inv (by simpa using h11) hzr with ⟨o0, up0, q0, rfl, hzn⟩ | ⟨o0, f0, up0, q0, rfl, hzn⟩
          · cases hzv with | fst hgx hop0 htt hup hzv =>
            rename_i x dx p0 u ups Lu t0 vo L
            replace htt := htt.mono hgg
            simp only [List.length_cons] at hy2
            refine xs_tup2 ?_ ?_ ?_
            rotate_left
            · with_unfolding_all rfl
            · with_unfolding_all rfl
            refine m_pop ?_
            walk_at "W"
            refine ⟨_, _, _, rfl, by have := σ.HL (.tail .head); rw [List.reverse_cons] at this; exact this, by simp; lia, fun s₆ xx hx6 => ?_⟩
            replace σ := σ.modL (.tail .head) xx hx6
            refine as_tuple2 σ hA (σ.HT htt) rfl ?_
            clear σ; intro s₇ σ
            walk_at "W"
            obtain ⟨g₆, le6, hpp, σ⟩ := σ.frzA (n := 3) (v1 := .ref p0) (v2 := .ref h) (v3 := .none) (x := x) (dx := dx) (led' := (it, IsLI c3 (i + 1)) :: (oa, IsL vo.reverse) :: (h, IsL ys) :: (Lc ++ ((u, IsL (ups ++ [.ref x])) :: (Lu ++ L)))) (by (classical (rw [List.perm_iff_count]; intro x; simp only [List.count_cons, List.count_append, List.count_nil]; lia))) (σ.fresh0 (P := IsA 3 (pA (.ref p0) (.ref h) .none)) (Mem.of_mem (by simp))) (hgg _ _ hgx) (by decide)
            have leA := hgg.trans le6
            refine fN u _ _ _ vo _ (Lu ++ ((h, IsL ys) :: (Lc ++ []))) _ _ _ _ (le.trans leA) ((hup.mono leA).append (.one hpp (hop0.mono leA) (hps.mono leA) .nil)) (hzv.mono leA) hzn (by simp only [List.map_cons, List.sum_cons, List.length_append, List.length_nil, List.length_cons] at hyc ⊢; lia) (by lia) (σ.perm ?_)
            (classical (rw [List.perm_iff_count]; intro x; simp only [List.count_cons, List.count_append, List.count_nil]; lia))
          · cases hzv with | snd hgx hop0 htt hpf hup hzv =>
            rename_i b x dx p0 fxs Lf u ups Lu t0 vo L
            replace htt := htt.mono hgg
            simp only [List.length_cons] at hy2
            refine xs_tup2 ?_ ?_ ?_
            rotate_left
            · with_unfolding_all rfl
            · with_unfolding_all rfl
            refine m_pop ?_
            walk_at "W"
            refine ⟨_, _, _, rfl, by have := σ.HL (.tail .head); rw [List.reverse_cons] at this; exact this, by simp; lia, fun s₆ xx hx6 => ?_⟩
            replace σ := σ.modL (.tail .head) xx hx6
            refine as_tuple2 σ hA (σ.HT htt) rfl ?_
            clear σ; intro s₇ σ
            walk_at "W"
            obtain ⟨g₆, le6, hpp, σ⟩ := σ.frzA (n := 4) (v1 := .ref p0) (v2 := .ref b) (v3 := .ref h) (x := x) (dx := dx) (led' := (it, IsLI c3 (i + 1)) :: (oa, IsL vo.reverse) :: (h, IsL ys) :: (Lc ++ ((b, IsL fxs) :: (Lf ++ ((u, IsL (ups ++ [.ref x])) :: (Lu ++ L)))))) (by (classical (rw [List.perm_iff_count]; intro x; simp only [List.count_cons, List.count_append, List.count_nil]; lia))) (σ.fresh0 (P := IsA 4 (pA (.ref p0) (.ref b) (.ref h))) (Mem.of_mem (by simp))) (hgg _ _ hgx) (by decide)
            have leA := hgg.trans le6
            refine fN u _ _ _ vo _ (Lu ++ ((b, IsL fxs) :: (Lf ++ ((h, IsL ys) :: (Lc ++ []))))) _ _ _ _ (le.trans leA) ((hup.mono leA).append (.two hpp (hop0.mono leA) (hpf.mono leA) (hps.mono leA) .nil)) (hzv.mono leA) hzn (by simp only [List.map_cons, List.sum_cons, List.length_append, List.length_nil, List.length_cons] at hyc ⊢; lia) (by lia) (σ.perm ?_)
            (classical (rw [List.perm_iff_count]; intro x; simp only [List.count_cons, List.count_append, List.count_nil]; lia))
        · refine sp_cf ?_ h11
          rw [zr_leaf (by simpa using h1) (by simpa using h5) (by simpa using h11)] at hzr
          walk_at "W"
          refine m_append ?_
          walk_at "W"
          refine k_app1 (σ.HL (.tail (.tail .head))) ?_
          refine e_make σ hG O.kin O.P W.gv_Piece (by walk_at "in") ?_
          walk_at "W"
          refine ⟨σ.hbs, k_piece W O σ R1.le (.inl ⟨rfl, rfl⟩) ?_⟩
          clear σ; intro x dx g₅ s₅ σ le5 hgx hfd
          refine ⟨_, σ.HL (.tail (.tail (.tail .head))), by lia, fun s₆ xx hx6 => ?_⟩
          replace σ := σ.modL (.tail (.tail (.tail .head))) xx hx6
          obtain ⟨g₆, le6, hpp, σ⟩ := σ.frzA (.refl _) hfd hgx (by decide)
          walk_at "W"
          have leB := le5.trans le6
          have leA := hgg.trans leB
          refine fN h _ _ _ vo _ (Lc ++ []) _ _ _ _ (le.trans leA) ((hps.mono leA).append (.leaf hpp (hpo.mono leB) .nil)) (hzv.mono leA) hzr (by simp only [List.length_append, List.length_cons, List.length_nil]; lia) (by lia) (σ.perm ?_)
          · (classical (rw [List.perm_iff_count]; intro x; simp only [List.count_cons, List.count_append, List.count_nil]; lia))
  · clear σ
    rintro s₂ _ _ g₂ ⟨h, ys, cur, fs, vo, L, Lc, x3, x4, rfl, rfl, le, hps, hzv, hzr, hy1, hy2⟩ σ
    rw [hxl1, List.drop_length] at hzr
    unfold zrun at hzr
    cases fs with
    | cons _ _ => cases hzr
    | nil =>
      cases hzv
      have : cur = l := by simpa using hzr
      subst this
      walk_at "W"
      rw [List.append_nil] at σ
      exact cont _ _ _ _ _ σ.ext σ.grownOf hps (σ.newL (List.sublist_cons_self ..))
end
-- a list of pieces, all frozen
mutual
inductive PzN (g : FH) : Value → Node → Prop
  | leaf {x p op} : PP g x (.ref p) .none .none → OpG g p op → PzN g (.ref x) (.leaf op)
  | one {x p b op xs l} : PP g x (.ref p) (.ref b) .none → OpG g p op → LG g b xs → PzV g xs l → PzN g (.ref x) (.one op l)
  | two {x p b c op xs l ys k} : PP g x (.ref p) (.ref b) (.ref c) → OpG g p op → LG g b xs → PzV g xs l → LG g c ys → PzV g ys k → PzN g (.ref x) (.two op l k)
inductive PzV (g : FH) : List Value → List Node → Prop
  | nil : PzV g [] []
  | cons {v n vs ns} : PzN g v n → PzV g vs ns → PzV g (v :: vs) (n :: ns)
end
theorem PzV.ind {g : FH} {P : List Value → List Node → Prop} (h0 : P [] []) (h1 : ∀ {v n vs ns}, PzN g v n → PzV g vs ns → P vs ns → P (v :: vs) (n :: ns)) {xs l} (x : PzV g xs l) : P xs l :=
  x.rec (motive_1 := fun _ _ _ => True) (motive_2 := fun xs l _ => P xs l) (fun _ _ => trivial) (fun _ _ _ _ _ => trivial) (fun _ _ _ _ _ _ _ _ => trivial) h0 (fun a b _ i => h1 a b i)
theorem PzN.mono {g g' : FH} (h : GLe g g') {v n} (x : PzN g v n) : PzN g' v n :=
  x.rec (motive_1 := fun v n _ => PzN g' v n) (motive_2 := fun v n _ => PzV g' v n) (fun a b => .leaf (a.mono h) (b.mono h)) (fun a b c _ i => .one (a.mono h) (b.mono h) (c.mono h) i) (fun a b c _ e _ i j => .two (a.mono h) (b.mono h) (c.mono h) i (e.mono h) j) .nil (fun _ _ i j => .cons i j)
theorem PzV.mono {g g' : FH} (h : GLe g g') {v n} (x : PzV g v n) : PzV g' v n := x.ind (P := PzV g') .nil fun a _ i => .cons (a.mono h) i
theorem PzV.length {g : FH} {xs l} (x : PzV g xs l) : xs.length = l.length := x.ind (P := fun xs l => xs.length = l.length) rfl fun _ _ i => congrArg (· + 1) i
theorem PzV.get {g : FH} {xs l} {i : Nat} {v} (x : PzV g xs l) (h : xs[i]? = some v) : ∃ n, l[i]? = some n ∧ PzN g v n := by
  revert i
  exact x.ind (P := fun xs l => ∀ {i : Nat}, xs[i]? = some v → ∃ n, l[i]? = some n ∧ PzN g v n) (fun h => nomatch h) fun a _ ih i h => by
    cases i with
    | zero => cases h; exact ⟨_, rfl, a⟩
    | succ i => exact ih h
theorem PsV.fz {g : FH} {L vs ns} (h : PsV g L vs ns) (hf : ∀ p ∈ L, ∃ o, g p.1 = some o ∧ p.2 o) : PzV g vs ns := by
  induction h with
  | nil => exact .nil
  | leaf a b _ ih => exact .cons (.leaf a b) (ih hf)
  | @one x p b op L1 xs l L vs ns a a' _ _ i1 i2 =>
    obtain ⟨o, e, i⟩ := hf (b, IsL xs) (.head _)
    exact .cons (.one a a' ⟨o, e, i⟩ (i1 fun q hq => hf q (.tail _ (List.mem_append_left _ hq)))) (i2 fun q hq => hf q (.tail _ (List.mem_append_right _ hq)))
  | @two x p b c op L1 xs l L2 ys k L vs ns a a' _ _ _ i1 i2 i3 =>
    obtain ⟨o, e, i⟩ := hf (b, IsL xs) (.head _)
    obtain ⟨o', e', i'⟩ := hf (c, IsL ys) (.tail _ (List.mem_append_right _ (.head _)))
    exact .cons (.two a a' ⟨o, e, i⟩ (i1 fun q hq => hf q (.tail _ (List.mem_append_left _ hq))) ⟨o', e', i'⟩ (i2 fun q hq => hf q (.tail _ (List.mem_append_right _ (.tail _ (List.mem_append_left _ hq))))))
      (i3 fun q hq => hf q (.tail _ (List.mem_append_right _ (.tail _ (List.mem_append_right _ hq)))))
section
variable {prog : Program} {w : World} {hb : Heap} {K : Frag}
theorem S.frzAll {s0 : Shared} {g0 : FH} {env : Env} {ns : List Str} {vs : List (Option Value)} {s : Shared} : ∀ {L led : Led} {g : FH}, S hb s0 [] g0 env ns vs (L ++ led) g s → ∃ g', GLe g g' ∧ (∀ p ∈ L, ∃ o, g' p.1 = some o ∧ p.2 o) ∧ S hb s0 [] g0 env ns vs led g' s
  | [], led, g, σ => ⟨g, .refl, by simp, σ⟩
  | (a, P) :: L, led, g, σ => by
    have hf := σ.fresh0 (P := P) (a := a) .head
    obtain ⟨o, h, _, σ', le⟩ := σ.frz (.refl _) hf
    obtain ⟨g', le', hL, σ''⟩ := S.frzAll σ'
    refine ⟨g', GLe.trans le le', fun p hp => ?_, σ''⟩
    rcases List.mem_cons.mp hp with rfl | hp
    · exact ⟨o, le' _ _ FH.put_self, h⟩
    · exact hL p hp

theorem put_c (W : Wld hb) (O : Wob hb K) : ∀ (k : Nat) {A : Around} {g : FH} {s : Shared} {R : Result → Shared → Prop} {a bo : Addr} {xs zs : List Value} {l : List Node}, Room (k + 4) A → Frz hb g s → LG g a xs → PzV g xs l →
    (∃ o, s.heap.get? bo = some o ∧ IsL zs o) → g bo = none → depL l ≤ k → zs.length + (flatL l).length ≤ 6000 →
    (∀ s' g' ws, Ext [bo] s s' → Grown g s g' s' → HL s' bo (zs ++ ws) → OpsV g' ws (flatL l) → R (.ok (.ret .none)) s') →
    codeAny (model prog w) A (.call (.ref 227) ⟨[.ref a, .ref bo], []⟩) R s := by
  intro k
  induction k using Nat.strongRecOn with
  | ind k ih =>
  intro A g s R a bo xs zs l room hz ha hv hbo hgb hdp hlen cont
  refine start (led := [(bo, IsL zs)]) [bo] [(n_pieces, .ref a), (n_body, .ref bo)] [n_piece] [n_put_pieces, n_ELSE, n_END]
    (ns := [n_pieces, n_body, n_piece]) (vs := [some (.ref a), some (.ref bo), none]) W.fn_wput (room_depth room) hz (BindsTo.of_eq rfl) rfl rfl (by decide +kernel) (by simpa using hbo) (by simp) (by simpa using hgb) ?_
  intro env E s₁ hG σ
  have R1 : Room (k + 3) (A.deeper env) := room.deeper
  have hA : (A.deeper env).handled = none := R1.1
  have hsl : sizeLine = 16777216 := rfl
  (show wpAny _ _ (execs (_ :: _) _) _ _ _; dsimp only [qn_BLOCK, qn_DROP, qn_ELSE, qn_END, qn_FUNCTION, qn_Func, qn_IF, qn_LOCAL_GET, qn_LOCAL_SET, qn_LOCAL_TEE, qn_LOOP, qn_Module, qn_Piece, qn__name__, qn_law_behind, qn_law_flat, qn_law_is_kept_right, qn_law_items, qn_law_join, qn_law_joined, qn_law_kept, qn_law_next, qn_law_pick, qn_law_run, qn_law_two, qn_wall, qn_ahead, qn_at, qn_body, qn_body_of, qn_codes, qn_deep, qn_due, qn_first, qn_found, qn_func, qn_given, qn_height, qn_here, qn_index, qn_inner, qn_int, qn_is_else, qn_items, qn_join_last, qn_join_locals, qn_k, qn_kept, qn_kind, qn_len, qn_list, qn_local, qn_locals_now, qn_many, qn_module, qn_name, qn_number, qn_one, qn_opened, qn_other, qn_out, qn_own, qn_params, qn_part, qn_parts_of, qn_piece, qn_pieces, qn_pieces_of, qn_place, qn_places, qn_plain, qn_property, qn_put_pieces, qn_range, qn_read, qn_rest, qn_script, qn_second, qn_self, qn_sign, qn_sort, qn_stack, qn_state, qn_sum, qn_tape, qn_thing, qn_things, qn_told, qn_tuple, qn_turn, qn_two, qn_values, qn_way, qn_without_locals, qn_word])
  refine xs_for ?_ (by intro _; with_unfolding_all rfl)
  walk_at "W"
  have hll := hv.length
  refine for_list σ hA a xs (fun i vs' led' g' => ∃ ws x1, vs' = [some (.ref a), some (.ref bo), x1] ∧ led' = [(bo, IsL (zs ++ ws))] ∧ GLe g g' ∧ OpsV g' ws (flatL (l.take i)))
    ?_ ⟨[], _, rfl, by simp, .refl, .nil⟩ ?_ ?_ (.inl ⟨_, _, rfl⟩)
  · rintro i _ _ g' s' ⟨ws, x1, rfl, rfl, le, ho⟩ σ
    exact σ.HLg (ha.mono le)
  · clear σ
    rintro i v s₂ _ _ g₂ it E₂ TT hN hT hx ⟨ws, x1, rfl, rfl, le, ho⟩ σ
    obtain ⟨n, hn, hnv⟩ := hv.get hx
    replace hnv := hnv.mono le
    have hfl := flatN_le hn
    have hdn := depN_le hn
    have hoL := ho.length
    have hT := pa0 hlen hoL hfl
    rw [flatL_take_succ hn] at hN
    have fN := fun ws x1 s₃ g'' h1 h2 σ => hN s₃ _ _ g'' ⟨ws, x1, rfl, rfl, h1, h2⟩ σ
    clear hN
    cases hnv with
    | leaf hpp hop =>
      rename_i x p op
      obtain ⟨n, hn10, hpg⟩ := hpp
      walk_at "W"
      refine m_append ?_
      walk_at "W"
      refine k_app1 (σ.HL (.tail .head)) ?_
      walk_at "W"
      refine a_own σ O.kin O.P (σ.PG hpg) (by decide +kernel) (pA_plain ..) rfl ?_
      clear σ; intro s₃ σ
      refine k_app2 σ (.tail .head) (by simp; exact sz hT rfl) ?_
      clear σ; intro s₅ σ
      walk_at "W"
      refine xs_if ?_
      walk_at "W"
      refine a_own σ O.kin O.P (σ.PG hpg) (by decide +kernel) (pA_first ..) rfl ?_
      clear σ; intro s₃ σ
      simp only [List.append_assoc] at σ
      walk_at "W"
      exact fN _ _ _ _ le (by simpa [flatN] using ho.snoc hop) σ
    | one hpp hop hlg hvs =>
      rename_i x p b op xs1 l1
      obtain ⟨n, hn10, hpg⟩ := hpp
      simp only [flatN, depN, List.length_cons, List.length_append, List.length_nil] at hfl hdn
      walk_at "W"
      refine m_append ?_
      walk_at "W"
      refine k_app1 (σ.HL (.tail .head)) ?_
      walk_at "W"
      refine a_own σ O.kin O.P (σ.PG hpg) (by decide +kernel) (pA_plain ..) rfl ?_
      clear σ; intro s₃ σ
      refine k_app2 σ (.tail .head) (by simp; exact sz hT rfl) ?_
      clear σ; intro s₅ σ
      walk_at "W"
      refine xs_if ?_
      walk_at "W"
      refine a_own σ O.kin O.P (σ.PG hpg) (by decide +kernel) (pA_first ..) rfl ?_
      clear σ; intro s₃ σ
      walk_at "W"
      refine e_call σ hG W.gv_wput W.fn_wput (by walk_at "in") ?_
      walk_at "W"
      refine a_own σ O.kin O.P (σ.PG hpg) (by decide +kernel) (pA_first ..) rfl ?_
      clear σ; intro s₃ σ
      walk_at "W"
      refine ⟨σ.hbs, w_call (ih (depL l1) (Nat.lt_of_lt_of_le hdn hdp) (R1.le (Nat.add_le_add_right (Nat.lt_of_lt_of_le hdn hdp) 3)) σ.fz hlg hvs (σ.HL (.tail .head)) (σ.gl (.tail .head)) (Nat.le_refl _) (by simp; exact pa4 hlen hoL hfl) fun s₆ g₆ ws6 x y hl6 hov => rv ?_)⟩
      have le6 : GLe g₂ g₆ := y.ggr
      have hz1 := hov.length
      replace σ := σ.back (σ.modL (.tail .head) x hl6) rfl y
      walk_at "W"
      refine xs_if ?_
      walk_at "W"
      refine a_own σ O.kin O.P (σ.PG (hpg.mono le6)) (by decide +kernel) (pA_second ..) rfl ?_
      clear σ; intro s₃ σ
      walk_at "W"
      refine m_append ?_
      walk_at "W"
      refine k_app1 (σ.HL (.tail .head)) ?_
      walk_at "W"
      refine k_app2 σ (.tail .head) (by simp; exact sz (pa5 hlen hoL hz1 hfl) rfl) ?_
      clear σ; intro s₅ σ
      have ho3 := (((ho.snoc hop).mono (le6.trans hgg)).append (hov.mono hgg)).snoc (op := [11]) ⟨_, htg, by repeat constructor⟩
      simp only [List.append_assoc] at σ
      walk_at "W"
      exact fN _ _ _ _ (le.trans (le6.trans hgg)) (by simpa [flatN] using ho3) σ
    | two hpp hop hlg hvs hlg2 hvs2 =>
      rename_i x p b c op xs1 l1 xs2 l2
      obtain ⟨n, hn10, hpg⟩ := hpp
      simp only [flatN, depN, List.length_cons, List.length_append, List.length_nil] at hfl hdn
      walk_at "W"
      refine m_append ?_
      walk_at "W"
      refine k_app1 (σ.HL (.tail .head)) ?_
      walk_at "W"
      refine a_own σ O.kin O.P (σ.PG hpg) (by decide +kernel) (pA_plain ..) rfl ?_
      clear σ; intro s₃ σ
      refine k_app2 σ (.tail .head) (by simp; exact sz hT rfl) ?_
      clear σ; intro s₅ σ
      walk_at "W"
      refine xs_if ?_
      walk_at "W"
      refine a_own σ O.kin O.P (σ.PG hpg) (by decide +kernel) (pA_first ..) rfl ?_
      clear σ; intro s₃ σ
      walk_at "W"
      refine e_call σ hG W.gv_wput W.fn_wput (by walk_at "in") ?_
      walk_at "W"
      refine a_own σ O.kin O.P (σ.PG hpg) (by decide +kernel) (pA_first ..) rfl ?_
      clear σ; intro s₃ σ
      walk_at "W"
      refine ⟨σ.hbs, w_call (ih (depL l1) (mx_l hdn hdp) (R1.le (Nat.add_le_add_right (mx_l hdn hdp) 3)) σ.fz hlg hvs (σ.HL (.tail .head)) (σ.gl (.tail .head)) (Nat.le_refl _) (by simp; exact pa4 hlen hoL hfl) fun s₆ g₆ ws6 x y hl6 hov => rv ?_)⟩
      have le6 : GLe g₂ g₆ := y.ggr
      have hz1 := hov.length
      replace σ := σ.back (σ.modL (.tail .head) x hl6) rfl y
      walk_at "W"
      refine xs_if ?_
      walk_at "W"
      refine a_own σ O.kin O.P (σ.PG (hpg.mono le6)) (by decide +kernel) (pA_second ..) rfl ?_
      clear σ; intro s₃ σ
      walk_at "W"
      refine m_append ?_
      walk_at "W"
      refine k_app1 (σ.HL (.tail .head)) ?_
      walk_at "W"
      refine k_app2 σ (.tail .head) (by simp; exact sz (pa5 hlen hoL hz1 hfl) rfl) ?_
      clear σ; intro s₅ σ
      have ho3 := (((ho.snoc hop).mono (le6.trans hgg)).append (hov.mono hgg)).snoc (op := [5]) ⟨_, htg, by repeat constructor⟩
      have le7 := le6.trans hgg
      walk_at "W"
      refine e_call σ hG W.gv_wput W.fn_wput (by walk_at "in") ?_
      walk_at "W"
      refine a_own σ O.kin O.P (σ.PG (hpg.mono le7)) (by decide +kernel) (pA_second ..) rfl ?_
      clear σ; intro s₃ σ
      walk_at "W"
      refine ⟨σ.hbs, w_call (ih (depL l2) (mx_r hdn hdp) (R1.le (Nat.add_le_add_right (mx_r hdn hdp) 3)) σ.fz (hlg2.mono le7) (hvs2.mono le7) (σ.HL (.tail .head)) (σ.gl (.tail .head)) (Nat.le_refl _) (by simp; exact pb4 hlen hoL hz1 hfl) fun s₇ g₇ ws7 x y hl7 hov7 => rv ?_)⟩
      have le8 : GLe gg g₇ := y.ggr
      have hz2 := hov7.length
      replace σ := σ.back (σ.modL (.tail .head) x hl7) rfl y
      have ho4 := (ho3.mono le8).append hov7
      walk_at "W"
      refine m_append ?_
      walk_at "W"
      refine k_app1 (σ.HL (.tail .head)) ?_
      walk_at "W"
      refine k_app2 σ (.tail .head) (by simp; exact sz (pb5 hlen hoL hz1 hz2 hfl) rfl) ?_
      clear σ; intro s₅ σ
      have ho5 := (ho4.mono hgg).snoc (op := [11]) ⟨_, htg, by repeat constructor⟩
      simp only [List.append_assoc] at σ
      walk_at "W"
      exact fN _ _ _ _ (le.trans (le7.trans (le8.trans hgg))) (by simpa [flatN] using ho5) σ
  · clear σ
    rintro s₂ _ _ g₂ ⟨ws, x1, rfl, rfl, le, ho⟩ σ
    rw [hll, List.take_length] at ho
    walk_at "W"
    exact cont _ _ _ σ.ext σ.grownOf (σ.HL .head) ho

theorem body_of_c (W : Wld hb) (O : Wob hb K) {A : Around} {g : FH} {s : Shared} {R : Result → Shared → Prop} {a : Addr} {xs : List Value} {l : List Node} (room : Room 9 A) (hz : Frz hb g s) (ha : LG g a xs) (hv : PzV g xs l) (hdp : depL l ≤ 3) (hlen : (flatL l).length ≤ 5900)
    (cont : ∀ s' g' c ws, Ext [] s s' → Grown g s g' s' → LG g' c ws → OpsV g' ws (flatL l ++ [[11]]) → R (.ok (.ret (.ref c))) s') :
    codeAny (model prog w) A (.call (.ref 234) ⟨[.ref a], []⟩) R s := by
  refine start (led := []) [] [(n_pieces, .ref a)] [n_body] [n_put_pieces, n_END]
    (ns := [n_pieces, n_body]) (vs := [some (.ref a), none]) W.fn_wbody (room_depth room) hz (BindsTo.of_eq rfl) rfl rfl (by decide +kernel) (by simp) (by simp) (by simp) ?_
  intro env E s₁ hG σ
  have R1 : Room 8 (A.deeper env) := room.deeper
  have hsl : sizeLine = 16777216 := rfl
  (show wpAny _ _ (execs (_ :: _) _) _ _ _; dsimp only [qn_BLOCK, qn_DROP, qn_ELSE, qn_END, qn_FUNCTION, qn_Func, qn_IF, qn_LOCAL_GET, qn_LOCAL_SET, qn_LOCAL_TEE, qn_LOOP, qn_Module, qn_Piece, qn__name__, qn_law_behind, qn_law_flat, qn_law_is_kept_right, qn_law_items, qn_law_join, qn_law_joined, qn_law_kept, qn_law_next, qn_law_pick, qn_law_run, qn_law_two, qn_wall, qn_ahead, qn_at, qn_body, qn_body_of, qn_codes, qn_deep, qn_due, qn_first, qn_found, qn_func, qn_given, qn_height, qn_here, qn_index, qn_inner, qn_int, qn_is_else, qn_items, qn_join_last, qn_join_locals, qn_k, qn_kept, qn_kind, qn_len, qn_list, qn_local, qn_locals_now, qn_many, qn_module, qn_name, qn_number, qn_one, qn_opened, qn_other, qn_out, qn_own, qn_params, qn_part, qn_parts_of, qn_piece, qn_pieces, qn_pieces_of, qn_place, qn_places, qn_plain, qn_property, qn_put_pieces, qn_range, qn_read, qn_rest, qn_script, qn_second, qn_self, qn_sign, qn_sort, qn_stack, qn_state, qn_sum, qn_tape, qn_thing, qn_things, qn_told, qn_tuple, qn_turn, qn_two, qn_values, qn_way, qn_without_locals, qn_word])
  walk_at "W"
  rcases (⟨la, rfl⟩ : ∃ x, x = la) with ⟨bo, rfl⟩
  refine e_call σ hG W.gv_wput W.fn_wput (by walk_at "in") ?_
  walk_at "W"
  refine ⟨σ.hbs, w_call (put_c W O 3 R1.le σ.fz ha hv (σ.HL .head) (σ.gl .head) hdp (by simp; exact Nat.le_trans hlen (by decide)) fun s₆ g₆ ws6 x y hl6 hov => rv ?_)⟩
  have hz1 := hov.length
  replace σ := σ.back (σ.modL .head x hl6) rfl y
  walk_at "W"
  refine m_append ?_
  walk_at "W"
  refine k_app1 (σ.HL .head) ?_
  walk_at "W"
  refine k_app2 σ .head (by simp; exact sz (Nat.le_trans (Nat.le_of_eq hz1) hlen) rfl) ?_
  clear σ; intro s₅ σ
  walk_at "W"
  have ho5 := (hov.mono hgg).snoc (op := [11]) ⟨_, htg, by repeat constructor⟩
  obtain ⟨g₃, le3, hlg, σ⟩ := σ.frzL (.refl _) hla
  exact cont _ _ _ _ σ.ext σ.grownOf hlg (by simpa using ho5.mono le3)
end
noncomputable def HN (g : FH) (v : Value) (n : Node) : Prop := ∃ x p v2 v3, v = .ref x ∧ PP g x (.ref p) v2 v3 ∧ OpG g p (opOf n) ∧ ((∃ op, n = .leaf op) → v2 = .none ∧ v3 = .none)
inductive HsV (g : FH) : List Value → List Node → Prop
  | nil : HsV g [] []
  | cons {v n vs ns} : HN g v n → HsV g vs ns → HsV g (v :: vs) (n :: ns)
theorem HsV.length {g : FH} {vs ns} (h : HsV g vs ns) : vs.length = ns.length := by induction h with | nil => rfl | cons _ _ ih => simp [ih]
theorem HsV.app {g : FH} {ns : List Node} : ∀ {pre : List Node} {vs : List Value}, HsV g vs (pre ++ ns) → ∃ yp ys, vs = yp ++ ys ∧ yp.length = pre.length ∧ HsV g ys ns := by
  intro pre
  induction pre with
  | nil => intro vs h; exact ⟨[], vs, rfl, rfl, h⟩
  | cons n pre ih =>
    intro vs h
    cases h with
    | cons a b =>
      obtain ⟨yp, ys, rfl, e, h'⟩ := ih b
      exact ⟨_ :: yp, ys, rfl, by simp [e], h'⟩
theorem last_two {α : Type} (l : List α) (h : 2 ≤ l.length) : ∃ pre a b, l = pre ++ [a, b] := by
  have e : l = l.take (l.length - 2) ++ l.drop (l.length - 2) := (List.take_append_drop _ l).symm
  have hd : (l.drop (l.length - 2)).length = 2 := by rw [List.length_drop]; exact Nat.sub_sub_self h
  match hq : l.drop (l.length - 2), hd with
  | [a, b], _ => exact ⟨_, a, b, by rw [hq] at e; exact e⟩
theorem HsV.snoc2 {g : FH} {ns : List Node} {vs : List Value} (h : HsV g vs ns) (h2 : 2 ≤ ns.length) : ∃ yp u v pre a b, vs = yp ++ [u, v] ∧ ns = pre ++ [a, b] ∧ yp.length = pre.length ∧ HN g u a ∧ HN g v b := by
  obtain ⟨pre, a, b, rfl⟩ := last_two ns h2
  obtain ⟨yp, ys, rfl, e, h'⟩ := h.app
  cases h' with
  | cons h1 h' =>
    cases h' with
    | cons h2' h' =>
      cases h'
      exact ⟨yp, _, _, pre, a, b, rfl, rfl, e, h1, h2'⟩
theorem PsV.heads {g : FH} {L vs ns} (h : PsV g L vs ns) : HsV g vs ns := by
  induction h with
  | nil => exact .nil
  | leaf a b _ ih => exact .cons ⟨_, _, _, _, rfl, a, b, fun _ => ⟨rfl, rfl⟩⟩ ih
  | one a b _ _ _ ih => exact .cons ⟨_, _, _, _, rfl, a, b, fun ⟨op, e⟩ => nomatch e⟩ ih
  | two a b _ _ _ _ _ ih => exact .cons ⟨_, _, _, _, rfl, a, b, fun ⟨op, e⟩ => nomatch e⟩ ih
noncomputable def NoLast (nl : List Node) : Prop := nl.length < 2 ∨ ∃ pre a b, nl = pre ++ [a, b] ∧ twoD a b = none
section
variable {prog : Program} {w : World} {hb : Heap} {K : Frag}
section
variable {A : Around} {E : Value → Shared → Prop} {s0 : Shared} {mods : List Addr} {g0 g : FH} {env : Env} {ns : List Str} {vs : List (Option Value)} {led : Led} {s : Shared}
theorem c_eq_intsT {l b : Addr} {xs ys : List Value} {is js : List Int} {Q : Value → Shared → Prop} (hl : HT s l xs) (hb' : HT s b ys) (hi : IntsAre xs is) (hj : IntsAre ys js) (hu : A.units < cLine)
    (h : Q (.bool (decide (is = js))) s) : wpAny (model prog w) A (compareOp .Eq (.ref l) (.ref b)) Q E s := ints_eqT hl hb' hi hj hu prog w E Q h
theorem add_tups (σ : S hb s0 mods g0 env ns vs led g s) {a b : Addr} {x y : Value} {xs ys : List Value} {Q : Value → Shared → Prop} (ha : TG g a (x :: xs)) (hb' : TG g b (y :: ys)) (hsz : xs.length + ys.length ≤ 100000)
    (h : ∀ c g' s', S hb s0 mods g0 env ns vs led g' s' → GLe g g' → TG g' c ((x :: xs) ++ (y :: ys)) → Q (.ref c) s') : wpAny (model prog w) A (binaryOp .Add (.ref a) (.ref b)) Q E s := by
  obtain ⟨o, e, n, rfl⟩ := ha
  obtain ⟨o', e', n', rfl⟩ := hb'
  have hsl : sizeLine = 16777216 := rfl
  refine P.add_tuple (σ.gin _ _ e) (σ.gin _ _ e') (by simp) (by simp) ?_ (by simp; lia)
  have q := σ.ice (a := s.heap.objs.size) (get_size _) (Ext.push (t := s.toks) (o := { cls := .type "tuple", data := .seq ((x :: xs).toArray ++ (y :: ys).toArray) })) (Heap.get?_push_size _ rfl)
  exact h _ _ _ q.1 q.2 ⟨_, FH.put_self, 0, by simp⟩
theorem a_code (W : Wld hb) (O : Wob hb K) (σ : S hb s0 mods g0 env ns vs led g s) (room : Room 2 A) {x p : Addr} {v2 v3 : Value} {c : Int} {tk : Tok} {q : List Value} {expr : Bool} {Q : Value → Shared → Prop} (hx : PP g x (.ref p) v2 v3) (hp : TG g p (.int c tk :: q))
    (h : ∀ s', S hb s0 mods g0 env ns vs led g s' → Q (.int c tk) s') : wpAny (model prog w) A (getAttr (.ref x) "code" expr) Q E s := by
  obtain ⟨n, hn, hpg⟩ := hx
  refine a_prop σ O.kin O.P O.code (σ.PG hpg) fun s' σ' => ?_
  exact pcode_c W O room.in1 σ'.fz hpg hp fun s'' xx => ⟨rfl, h _ (σ'.grow xx)⟩
theorem a_plain (O : Wob hb K) (σ : S hb s0 mods g0 env ns vs led g s) {x p : Addr} {v2 v3 : Value} {expr : Bool} {Q : Value → Shared → Prop} (hx : PP g x (.ref p) v2 v3)
    (h : ∀ s', S hb s0 mods g0 env ns vs led g s' → Q (.ref p) s') : wpAny (model prog w) A (getAttr (.ref x) n_plain expr) Q E s := by
  obtain ⟨n, hn, hpg⟩ := hx
  exact a_own σ O.kin O.P (σ.PG hpg) (by decide +kernel) (pA_plain ..) rfl h
end
open Classical in
theorem c_in_two {A : Around} {E : Value → Shared → Prop} {s : Shared} {l : Addr} {a b x : Value} {e1 e2 : Bool} {Q : Value → Shared → Prop} (hl : HT s l [a, b]) (hne : a ≠ b) (h1 : EqAt A.in1 s a x e1) (h2 : EqAt A.in1 s b x e2) (h : Q (.bool (e1 || e2)) s) :
    wpAny (model prog w) A (compareOp .In x (.ref l)) Q E s := by
  refine in_tupleAt (fun y => if y = a then e1 else e2) hl.isTuple (fun y hy => ?_) ?_
  · have : y = a ∨ y = b := by simpa using hy
    rcases this with rfl | rfl
    · simpa using h1
    · rw [if_neg (Ne.symm hne)]; exact h2
  · have : ([a, b].toArray.any fun y => if y = a then e1 else e2) = (e1 || e2) := by simp [Ne.symm hne]
    rw [this]; exact h
theorem tg_ne {g : FH} {a b : Addr} {xs ys : List Value} (h1 : TG g a xs) (h2 : TG g b ys) (hne : xs ≠ ys) : (Value.ref a) ≠ .ref b := by
  intro e; cases e
  obtain ⟨o, e1, n, rfl⟩ := h1; obtain ⟨o', e2, n', h2⟩ := h2
  rw [e1] at e2; cases e2; injection h2 with _ _ q; injection q with q1
  exact hne (by simpa using q1)
theorem t_codes {A : Around} {E : Value → Shared → Prop} {s0 : Shared} {mods : List Addr} {g0 g : FH} {env : Env} {ns gs : List Str} {vs : List (Option Value)} {led : Led} {s : Shared} (σ : S hb s0 mods g0 env ns vs led g s) (hG : EnvG env gs) (hu : A.units < cLine)
    {x y : Str} {tc : Addr} {c d i j : Int} {t1 t2 ti tj : Tok} {p px py tp cp : Pos} {k : Nat} {whole : Sem Value} {Q : Bool → Shared → Prop} (hx : At ns vs n_codes (.ref tc)) (htc : TG g tc [.int c t1, .int d t2]) (gx : GV hb x (.int i ti)) (gy : GV hb y (.int j tj)) (mx : x ∈ gs) (my : y ∈ gs)
    (he : ∀ e, starEach ([.Name x px, .Name y py] : List Expr) e = [(false, eval (.Name x px) e), (false, eval (.Name y py) e)])
    (h : ∀ g' s', S hb s0 mods g0 env ns vs led g' s' → GLe g g' → Q (decide (c = i ∧ d = j)) s') :
    wpAny (model prog w) A (isTrue (.Compare (.Name n_codes p) [.Eq] [.Tuple [.Name x px, .Name y py] k tp] cp) env whole) Q E s := by
  refine t_cmp (w_load σ hx (e_tuple (sp_cons (w_global σ hG gx mx (sp_cons (w_global σ hG gy my (sp_nil (tup_new σ (Nat.le_of_ble_eq_true rfl) fun ta g' s' σ' le ht => ?_))) (by with_unfolding_all rfl))) (by with_unfolding_all rfl))))
  refine c_eq_intsT (σ'.HT (htc.mono le)) (σ'.HT ht) (.cons c t1 (.cons d t2 .nil)) (.cons i ti (.cons j tj .nil)) hu (tr_bool ?_)
  have : decide (([c, d] : List Int) = [i, j]) = decide (c = i ∧ d = j) := by simp
  rw [this]; exact h _ _ σ' le
theorem last_c (W : Wld hb) (O : Wob hb K) {A : Around} {g : FH} {s : Shared} {R : Result → Shared → Prop} (room : Room 5 A) (hz : Frz hb g s) {fa : Addr} {ys : List Value} {nl : List Node} {m : Int} (hf : HL s fa ys) (hgf : g fa = none) (hv : HsV g ys nl) (hgood : GoodL m nl) (hlen : nl.length ≤ 6000)
    (k0 : ∀ s' g', Ext [fa] s s' → Grown g s g' s' → HL s' fa ys → NoLast nl → R (.ok (.ret (.bool false))) s')
    (k1 : ∀ s' g' yp u v zs pre a b x, ys = yp ++ [u, v] → nl = pre ++ [a, b] → yp.length = pre.length → twoD a b = some x → Ext [fa] s s' → Grown g s g' s' → HL s' fa (yp ++ zs) → HsV g' zs x → R (.ok (.ret (.bool true))) s') :
    codeAny (model prog w) A (.call (.ref 241) ⟨[.ref fa], []⟩) R s := by
  refine start (led := [(fa, IsL ys)]) [fa] [(n_found, .ref fa)] [n_codes, n_local] [n_len, n_LOCAL_SET, n_LOCAL_GET, n_LOCAL_TEE, n_Piece]
    (ns := [n_found, n_codes, n_local]) (vs := [some (.ref fa), none, none]) W.fn_wlast (room_depth room) hz (BindsTo.of_eq rfl) rfl rfl (by decide +kernel) (by intro p hp; rw [List.mem_singleton.mp hp]; exact hf) (by simp) (by simpa using hgf) ?_
  intro env E s₁ hG σ
  have R1 : Room 4 (A.deeper env) := room.deeper
  have hA : (A.deeper env).handled = none := R1.1
  have hsl : sizeLine = 16777216 := rfl
  have hyl := hv.length
  (show wpAny _ _ (execs (_ :: _) _) _ _ _; dsimp only [qn_BLOCK, qn_DROP, qn_ELSE, qn_END, qn_FUNCTION, qn_Func, qn_IF, qn_LOCAL_GET, qn_LOCAL_SET, qn_LOCAL_TEE, qn_LOOP, qn_Module, qn_Piece, qn__name__, qn_law_behind, qn_law_flat, qn_law_is_kept_right, qn_law_items, qn_law_join, qn_law_joined, qn_law_kept, qn_law_next, qn_law_pick, qn_law_run, qn_law_two, qn_wall, qn_ahead, qn_at, qn_body, qn_body_of, qn_codes, qn_deep, qn_due, qn_first, qn_found, qn_func, qn_given, qn_height, qn_here, qn_index, qn_inner, qn_int, qn_is_else, qn_items, qn_join_last, qn_join_locals, qn_k, qn_kept, qn_kind, qn_len, qn_list, qn_local, qn_locals_now, qn_many, qn_module, qn_name, qn_number, qn_one, qn_opened, qn_other, qn_out, qn_own, qn_params, qn_part, qn_parts_of, qn_piece, qn_pieces, qn_pieces_of, qn_place, qn_places, qn_plain, qn_property, qn_put_pieces, qn_range, qn_read, qn_rest, qn_script, qn_second, qn_self, qn_sign, qn_sort, qn_stack, qn_state, qn_sum, qn_tape, qn_thing, qn_things, qn_told, qn_tuple, qn_turn, qn_two, qn_values, qn_way, qn_without_locals, qn_word])
  refine xs_if ?_
  walk_at "W"
  refine e_bfun1 σ hG W.bv_len (by walk_at "in") ?_
  walk_at "W"
  refine k_len σ (σ.HL .head) (sz (Nat.le_trans (Nat.le_of_eq hyl) hlen) rfl) ?_
  clear σ; intro tn s₂ σ
  walk_at "W"
  by_cases h2 : nl.length < 2
  · refine sp_ct ?_ (by rw [hyl]; exact Int.ofNat_lt.2 h2)
    walk_at "W"
    exact k0 _ _ σ.ext σ.grownOf (σ.HL .head) (.inl h2)
  refine sp_cf ?_ (fun q => h2 (Int.ofNat_lt.1 (by rw [← hyl]; exact q)))
  obtain ⟨yp, u, v, pre, na, nb, rfl, rfl, hpl, hu, hvv⟩ := hv.snoc2 (Nat.le_of_not_lt h2)
  have hga : GoodN m na := (GoodL.append.mp hgood).2.1
  have hgb : GoodN m nb := (GoodL.append.mp hgood).2.2.1
  obtain ⟨xu, pu, v2, v3, rfl, hpu, hou, hlu⟩ := id hu
  obtain ⟨xv, pv, v4, v5, rfl, hpv, hov, hlv⟩ := id hvv
  simp only [List.length_append, List.length_cons, List.length_nil] at hyl hlen
  have hm1 : (yp ++ [Value.ref xu, Value.ref xv])[((-1 : Int) + ((yp ++ [Value.ref xu, Value.ref xv]).length : Nat)).toNat]? = some (.ref xv) := by
    rw [neg2a]; simp
  have hm2 : (yp ++ [Value.ref xu, Value.ref xv])[((-2 : Int) + ((yp ++ [Value.ref xu, Value.ref xv]).length : Nat)).toNat]? = some (.ref xu) := by
    rw [neg2b]; simp
  obtain ⟨c, t1, e1, l1, f1⟩ := hga.ok
  obtain ⟨d, t2, e2, l2, f2⟩ := hgb.ok
  have htw : twoD na nb = twoN (c :: t1) (d :: t2) := by rw [← e1, ← e2]; exact (good_two hga hgb).symm
  rw [e1] at hou
  rw [e2] at hov
  obtain ⟨po1, hpo1, hi1⟩ := hou
  obtain ⟨po2, hpo2, hi2⟩ := hov
  cases hi1 with | cons _ tk1 hi1 =>
  cases hi2 with | cons _ tk2 hi2 =>
  rename_i q1 q2
  have hq1 := ints_len hi1
  have hq2 := ints_len hi2
  walk_at "W"
  refine ix_list_neg (σ.HL .head) (by decide) (by simp; lia) (by decide) hm1 ?_
  walk_at "W"
  refine a_plain O σ hpv ?_
  clear σ; intro s₃ σ
  walk_at "W"
  (refine ⟨_, _, _, σ, ?_⟩; clear σ; intro sa gsl _ σ hgs hsg)
  refine sl_tuple σ (a := 1) (σ.HT (hpo2.mono hgs)) hsg (Nat.le_refl _) (by simp) (by simp; lia) ?_
  clear σ; intro t4 g4 s4 σ hg4 ht4
  have le4 : GLe g g4 := hgs.trans hg4
  walk_at "W"
  refine ix_list_neg (σ.HL .head) (by decide) (by simp; lia) (by decide) hm2 ?_
  walk_at "W"
  refine a_plain O σ (hpu.mono le4) ?_
  clear σ; intro s₅ σ
  walk_at "W"
  (refine ⟨_, _, _, σ, ?_⟩; clear σ; intro sa gsl _ σ hgs hsg)
  refine sl_tuple σ (a := 1) (σ.HT (hpo1.mono (le4.trans hgs))) hsg (Nat.le_refl _) (by simp) (by simp; lia) ?_
  clear σ; intro t5 g5 s6 σ hg5 ht5
  have le45 : GLe g4 g5 := hgs.trans hg5
  simp only [List.drop_succ_cons, List.drop_zero] at ht4 ht5
  refine c_ne_intsT (σ.HT (ht4.mono le45)) (σ.HT ht5) hi2 hi1 (room_units R1) ?_
  have le5 : GLe g g5 := le4.trans le45
  refine tr_bool (sp_n (sp_d (fun ht => ?_) (fun ht => ?_)))
  rotate_left
  · walk_at "W"
    refine k0 _ _ σ.ext σ.grownOf (σ.HL .head) (.inr ⟨pre, na, nb, rfl, ?_⟩)
    rw [htw]
    unfold twoN
    split
    · rename_i c' i' d' j' h1 h2
      cases h1; cases h2
      rw [if_neg (fun q => ht (by rw [q]))]
    · rfl
  subst ht
  walk_at "W"
  (refine' xs_swap2 σ ?k1 ?k2 ?k3 ?k4 ?k5 ?k6 ?k7 ?k8 ?_ ?k9; (case k1 => walk_at "in"); (case k2 => walk_at "in"); (case k3 => decide); (case k4 => rfl); (case k5 => intro _ _ q; cases q); (case k6 => intro _ _ q; cases q); (case k7 => decide +kernel); (case k8 => decide +kernel); (case k9 => with_unfolding_all rfl))
  walk_at "W"
  refine ix_list_neg (σ.HL .head) (by decide) (by simp; lia) (by decide) hm2 ?_
  refine a_code W O σ R1.le (hpu.mono le5) (hpo1.mono le5) ?_
  clear σ; intro s₇ σ
  walk_at "W"
  refine ix_list_neg (σ.HL .head) (by decide) (by simp; lia) (by decide) hm1 ?_
  refine a_code W O σ R1.le (hpv.mono le5) (hpo2.mono le5) ?_
  clear σ; intro s₈ σ
  walk_at "W"
  have htc := htg
  have le6 := le5.trans hgg
  refine ix_list_neg (σ.HL .head) (by decide) (by simp; lia) (by decide) hm1 ?_
  refine a_plain O σ (hpv.mono le6) ?_
  clear σ; intro s₉ σ
  walk_at "W"
  (refine ⟨_, _, _, σ, ?_⟩; clear σ; intro sa gsl _ σ hgs hsg)
  refine sl_tuple σ (a := 1) (σ.HT (hpo2.mono (le6.trans hgs))) hsg (Nat.le_refl _) (by simp) (by simp; lia) ?_
  clear σ; intro t6 g7 s10 σ hg7 ht6
  have le67 := hgs.trans hg7
  simp only [List.drop_succ_cons, List.drop_zero] at ht6
  walk_at "W"
  have hu4 := room_units R1
  refine xs_if (t_codes σ hG hu4 (by walk_at "at") (htc.mono (by walk_at "gle")) W.gv_LOCAL_SET W.gv_LOCAL_GET (by walk_at "in") (by walk_at "in") (fun _ => by with_unfolding_all rfl) ?_)
  clear σ; intro g8 s11 σ le8
  have le78 : GLe g7 g8 := hgg.trans le8
  by_cases hA1 : c = 33 ∧ d = 32
  · refine sp_ct ?_ hA1
    obtain ⟨rfl, rfl⟩ := hA1
    obtain ⟨ix, rfl⟩ := f1 (by decide) (by decide)
    cases hi2 with | cons _ tki hi2 =>
    cases hi2
    have hx2 : twoD na nb = some [.leaf [34, ix]] := by rw [htw]; simp [twoN, twoS]
    walk_at "W"
    refine e_make σ hG O.kin O.P W.gv_Piece (by walk_at "in") ?_
    walk_at "W"
    have le9 := (GLe.refl (g := g8)).trans hgg
    refine add_tups σ htg (ht6.mono ((by assumption : GLe g7 _).trans le9)) (by simp) ?_
    clear σ; intro pt g10 s12 σ le10 hpt
    walk_at "W"
    refine ⟨σ.hbs, k_piece W O σ R1.le (.inl ⟨rfl, rfl⟩) ?_⟩
    clear σ; intro x dx g11 s13 σ le11 hgx hfd
    obtain ⟨g12, le12, hpp, σ⟩ := σ.frzA (.refl _) hfd hgx (by decide)
    walk_at "W"
    (refine ⟨_, _, _, σ, ?_⟩; clear σ; intro sa gsl _ σ hgs hsg)
    have hne : fa ≠ la := by
      have := σ.nodup
      simp only [List.map_cons, List.nodup_cons, List.mem_cons] at this
      intro e; exact this.2.1 (.inl e.symm)
    refine st_last2 (σ.HL (.tail .head)) (σ.SG hsg) (σ.HL .head) hne (by simp; lia) fun s14 xx hl14 => ?_
    replace σ := (σ.modL (.tail .head) xx hl14).drop (List.sublist_cons_self ..)
    walk_at "W"
    exact k1 _ _ yp _ _ _ pre na nb _ rfl rfl hpl hx2 σ.ext σ.grownOf (σ.HL .head) (.cons ⟨x, pt, _, _, rfl, hpp.mono hgs, ⟨_, hpt.mono ((le11.trans le12).trans hgs), .cons _ _ (.cons _ _ .nil)⟩, fun _ => ⟨rfl, rfl⟩⟩ .nil)
  refine sp_cf ?_ hA1
  refine xs_if (t_codes σ hG hu4 (by walk_at "at") (htc.mono (by walk_at "gle")) W.gv_LOCAL_GET W.gv_LOCAL_SET (by walk_at "in") (by walk_at "in") (fun _ => by with_unfolding_all rfl) ?_)
  clear σ; intro g20 s20 σ le20
  have le20' : GLe g7 g20 := le78.trans le20
  by_cases hA2 : c = 32 ∧ d = 33
  · refine sp_ct ?_ hA2
    obtain ⟨rfl, rfl⟩ := hA2
    obtain ⟨ix, rfl⟩ := f1 (by decide) (by decide)
    have hx2 : twoD na nb = some [] := by rw [htw]; simp [twoN, twoS]
    walk_at "W"
    (refine ⟨_, _, _, σ, ?_⟩; clear σ; intro sa gsl _ σ hgs hsg)
    have hne : fa ≠ la := by
      have := σ.nodup
      simp only [List.map_cons, List.nodup_cons, List.mem_cons] at this
      intro e; exact this.2.1 (.inl e.symm)
    refine st_last2 (σ.HL (.tail .head)) (σ.SG hsg) (σ.HL .head) hne (by simp; lia) fun s14 xx hl14 => ?_
    replace σ := (σ.modL (.tail .head) xx hl14).drop (List.sublist_cons_self ..)
    walk_at "W"
    exact k1 _ _ yp _ _ _ pre na nb _ rfl rfl hpl hx2 σ.ext σ.grownOf (σ.HL .head) .nil
  refine sp_cf ?_ hA2
  refine xs_if (t_codes σ hG hu4 (by walk_at "at") (htc.mono (by walk_at "gle")) W.gv_LOCAL_TEE W.gv_LOCAL_SET (by walk_at "in") (by walk_at "in") (fun _ => by with_unfolding_all rfl) ?_)
  clear σ; intro g21 s21 σ le21
  have le21' : GLe g7 g21 := le20'.trans le21
  by_cases hA3 : c = 34 ∧ d = 33
  · refine sp_ct ?_ hA3
    obtain ⟨rfl, rfl⟩ := hA3
    obtain ⟨ix, rfl⟩ := f1 (by decide) (by decide)
    cases hi2 with | cons _ tki hi2 =>
    cases hi2
    have hx2 : twoD na nb = some [.leaf [33, ix]] := by rw [htw]; simp [twoN, twoS]
    walk_at "W"
    refine e_make σ hG O.kin O.P W.gv_Piece (by walk_at "in") ?_
    walk_at "W"
    have le9 := (GLe.refl (g := g21)).trans hgg
    refine add_tups σ htg (ht6.mono ((by assumption : GLe g7 _).trans le9)) (by simp) ?_
    clear σ; intro pt g10 s12 σ le10 hpt
    walk_at "W"
    refine ⟨σ.hbs, k_piece W O σ R1.le (.inl ⟨rfl, rfl⟩) ?_⟩
    clear σ; intro x dx g11 s13 σ le11 hgx hfd
    obtain ⟨g12, le12, hpp, σ⟩ := σ.frzA (.refl _) hfd hgx (by decide)
    walk_at "W"
    (refine ⟨_, _, _, σ, ?_⟩; clear σ; intro sa gsl _ σ hgs hsg)
    have hne : fa ≠ la := by
      have := σ.nodup
      simp only [List.map_cons, List.nodup_cons, List.mem_cons] at this
      intro e; exact this.2.1 (.inl e.symm)
    refine st_last2 (σ.HL (.tail .head)) (σ.SG hsg) (σ.HL .head) hne (by simp; lia) fun s14 xx hl14 => ?_
    replace σ := (σ.modL (.tail .head) xx hl14).drop (List.sublist_cons_self ..)
    walk_at "W"
    exact k1 _ _ yp _ _ _ pre na nb _ rfl rfl hpl hx2 σ.ext σ.grownOf (σ.HL .head) (.cons ⟨x, pt, _, _, rfl, hpp.mono hgs, ⟨_, hpt.mono ((le11.trans le12).trans hgs), .cons _ _ (.cons _ _ .nil)⟩, fun _ => ⟨rfl, rfl⟩⟩ .nil)
  refine sp_cf ?_ hA3
  refine xs_if ?_
  walk_at "W"
  rename_i tA gA sA hgA htA tB gB sB hgB htB sO
  have leO : GLe gA gg := hgB.trans hgg
  have leC : GLe g7 gg := (le21'.trans hgA).trans leO
  refine c_in_two (σ.HT htg) (tg_ne (htA.mono leO) (htB.mono hgg) (by simp)) (ints_eqR (σ.HT (htA.mono leO)) (σ.HT (htc.mono (le67.trans leC))) (.cons 32 _ (.cons 34 _ .nil)) (.cons c tk1 (.cons d tk2 .nil)) (room_units R1.in1)) (ints_eqR (σ.HT (htB.mono hgg)) (σ.HT (htc.mono (le67.trans leC))) (.cons 34 _ (.cons 34 _ .nil)) (.cons c tk1 (.cons d tk2 .nil)) (room_units R1.in1)) ?_
  have hdec : (decide (([32, 34] : List Int) = [c, d]) || decide (([34, 34] : List Int) = [c, d])) = decide ((c = 32 ∨ c = 34) ∧ d = 34) := by
    rw [Bool.eq_iff_iff]; simp only [Bool.or_eq_true, decide_eq_true_eq, List.cons.injEq, and_true]; exact ⟨fun q => q.elim (fun q => ⟨.inl q.1.symm, q.2.symm⟩) (fun q => ⟨.inr q.1.symm, q.2.symm⟩), fun q => q.1.elim (fun e => .inl ⟨e.symm, q.2.symm⟩) (fun e => .inr ⟨e.symm, q.2.symm⟩)⟩
  rw [hdec]
  refine tr_bool ?_
  by_cases hA4 : (c = 32 ∨ c = 34) ∧ d = 34
  · refine sp_ct ?_ hA4
    obtain ⟨hc4, rfl⟩ := hA4
    obtain ⟨ix, rfl⟩ := f1 (hc4.elim (fun e => Int.le_of_eq e.symm) (fun e => Int.le_trans (by decide) (Int.le_of_eq e.symm))) (hc4.elim (fun e => Int.le_trans (Int.le_of_eq e) (by decide)) (fun e => Int.le_of_eq e))
    have hx2 : twoD na nb = some [.leaf [c, ix]] := by rw [htw]; rcases hc4 with rfl | rfl <;> simp [twoN, twoS]
    have hlf : ∃ op, na = .leaf op := by cases two_of hx2 <;> exact ⟨_, rfl⟩
    obtain ⟨rfl, rfl⟩ := hlu hlf
    walk_at "W"
    refine m_pop ?_
    walk_at "W"
    refine ⟨_, yp ++ [.ref xu], .ref xv, rfl, by have := σ.HL .head; simpa using this, by simp; lia, fun s14 xx hl14 => ?_⟩
    replace σ := σ.modL .head xx hl14
    walk_at "W"
    have leF : GLe g gg := le5.trans (by walk_at "gle")
    exact k1 _ _ yp _ _ _ pre na nb _ rfl rfl hpl hx2 σ.ext σ.grownOf (σ.HL .head) (.cons ⟨xu, pu, _, _, rfl, hpu.mono leF, ⟨_, hpo1.mono leF, .cons _ _ hi1⟩, fun _ => ⟨rfl, rfl⟩⟩ .nil)
  · refine sp_cf ?_ hA4
    walk_at "W"
    refine k0 _ _ σ.ext σ.grownOf (σ.HL .head) (.inr ⟨pre, na, nb, rfl, ?_⟩)
    rw [htw]
    have hS : twoS c d = none := by unfold twoS; repeat (first | rw [if_neg (by lia)] | rfl)
    unfold twoN
    split
    · rename_i c' i' d' j' h1 h2
      cases h1; cases h2
      rw [hS]; split <;> rfl
    · rfl
end
theorem HsV.leaves {g : FH} {vs : List Value} {ns : List Node} (h : HsV g vs ns) (hl : ∀ n ∈ ns, ∃ op, n = .leaf op) : PsV g [] vs ns := by
  induction h with
  | nil => exact .nil
  | @cons v n vs ns a _ ih =>
    obtain ⟨op, rfl⟩ := hl n (.head _)
    obtain ⟨x, p, v2, v3, rfl, hp, ho, hv⟩ := a
    obtain ⟨rfl, rfl⟩ := hv ⟨_, rfl⟩
    exact .leaf hp ho (ih fun n hn => hl n (.tail _ hn))
theorem PsV.split {g : FH} {ns2 : List Node} : ∀ {ns1 : List Node} {L : Led} {vs : List Value}, PsV g L vs (ns1 ++ ns2) → ∃ L1 L2 vs1 vs2, L = L1 ++ L2 ∧ vs = vs1 ++ vs2 ∧ PsV g L1 vs1 ns1 ∧ PsV g L2 vs2 ns2 := by
  intro ns1
  induction ns1 with
  | nil => intro L vs h; exact ⟨[], L, [], vs, rfl, rfl, .nil, h⟩
  | cons n r ih =>
    intro L vs h
    cases h with
    | leaf a b c =>
      obtain ⟨L1, L2, vs1, vs2, rfl, rfl, h1, h2⟩ := ih c
      exact ⟨L1, L2, _ :: vs1, vs2, rfl, rfl, .leaf a b h1, h2⟩
    | one a b c d =>
      obtain ⟨L1, L2, vs1, vs2, rfl, rfl, h1, h2⟩ := ih d
      exact ⟨_, L2, _ :: vs1, vs2, by simp, rfl, .one a b c h1, h2⟩
    | two a b c d e =>
      obtain ⟨L1, L2, vs1, vs2, rfl, rfl, h1, h2⟩ := ih e
      exact ⟨_, L2, _ :: vs1, vs2, by simp, rfl, .two a b c d h1, h2⟩
theorem PsV.last {g g' : FH} (le : GLe g g') {L : Led} {yp zs : List Value} {u v : Value} {pre x : List Node} {a b : Node} (h : PsV g L (yp ++ [u, v]) (pre ++ [a, b])) (hl : yp.length = pre.length) (t : Two a b x) (hz : HsV g' zs x) : PsV g' L (yp ++ zs) (pre ++ x) := by
  obtain ⟨L1, L2, vs1, vs2, rfl, e, h1, h2⟩ := h.split
  have e1 : vs1 = yp := (List.append_inj e.symm (by rw [h1.length, hl])).1
  subst e1
  have hx : ∀ n ∈ x, ∃ op, n = .leaf op := by cases t <;> simp
  have hL2 : L2 = [] := by
    cases t <;> (cases h2 with | leaf _ _ c => cases c with | leaf _ _ c => cases c; rfl)
  subst hL2
  exact (h1.mono le).append (hz.leaves hx)
theorem noLast_normal {nl pre : List Node} {n : Node} (e : nl = pre ++ [n]) (hp : Normal pre) (h : NoLast nl) : Normal nl := by
  intro m s
  subst e
  generalize hl : pre ++ [n] = l at s
  cases s with
  | mk p a b x r t =>
    rcases List.eq_nil_or_concat r with rfl | ⟨r', z, rfl⟩
    · rcases h with h | ⟨pre', a', b', e', ht⟩
      · have := congrArg List.length hl; simp at this h; lia
      · rw [hl] at e'
        have := List.append_inj' e' (by simp)
        simp at this; obtain ⟨_, rfl, rfl⟩ := this
        rw [t.is] at ht; cases ht
    · have e2 : pre = p ++ a :: b :: r' := by
        have : pre ++ [n] = (p ++ a :: b :: r') ++ [z] := by rw [hl]; simp
        exact (List.append_inj' this rfl).1
      exact hp _ (e2 ▸ Stp.mk p a b x r' t)
inductive PL (g : FH) : List (Addr × Bool × List Node) → Led → Prop
  | nil : PL g [] []
  | cons {b d l ps L xs Lp} : PsV g L xs (if d = true then joinL l else l) → PL g ps Lp → PL g ((b, d, l) :: ps) ((b, IsL xs) :: (L ++ Lp))
theorem PL.mono {g g' : FH} (le : GLe g g') {ps L} (h : PL g ps L) : PL g' ps L := by
  induction h with
  | nil => exact .nil
  | cons a _ ih => exact .cons (a.mono le) ih
theorem PL.at {g : FH} {b : Addr} {l : List Node} {q : List (Addr × Bool × List Node)} : ∀ {p : List (Addr × Bool × List Node)} {L : Led}, PL g (p ++ (b, false, l) :: q) L →
    ∃ La L1 xs Lb, L = La ++ ((b, IsL xs) :: (L1 ++ Lb)) ∧ PsV g L1 xs l ∧ ∀ {g' : FH} {L1' : Led} {xs' : List Value}, GLe g g' → PsV g' L1' xs' (joinL l) → PL g' (p ++ (b, true, l) :: q) (La ++ ((b, IsL xs') :: (L1' ++ Lb))) := by
  intro p
  induction p with
  | nil =>
    intro L h
    cases h with
    | cons a c => exact ⟨[], _, _, _, rfl, a, fun le h' => .cons h' (c.mono le)⟩
  | cons x p ih =>
    intro L h
    cases h with
    | @cons b0 d0 l0 _ L0 xs0 Lp a c =>
      obtain ⟨La, L1, xs, Lb, rfl, h1, h2⟩ := ih c
      refine ⟨(b0, IsL xs0) :: (L0 ++ La), L1, xs, Lb, by simp, h1, fun le h' => ?_⟩
      have := PL.cons (b := b0) (d := d0) (l := l0) (a.mono le) (h2 le h')
      simpa using this
theorem S.modFront {hb : Heap} {s0 : Shared} {mods : List Addr} {g0 g : FH} {env : Env} {ns : List Str} {vs : List (Option Value)} {M M' rest : Led} {s s' : Shared} (σ : S hb s0 mods g0 env ns vs (M ++ rest) g s) (x : Ext (M.map (·.1)) s s') (had : M'.map (·.1) = M.map (·.1))
    (ok : ∀ p ∈ M', ∃ o, s'.heap.get? p.1 = some o ∧ p.2 o) : S hb s0 mods g0 env ns vs (M' ++ rest) g s' := by
  have nd := (List.nodup_cons.mp σ.nodup).2
  rw [List.map_append] at nd
  refine σ.modN (ms := M.map (·.1)) (fun a ha => by rw [List.map_append]; exact List.mem_append_left _ ha) x (by rw [List.map_append, List.map_append, had]) fun p hp => ?_
  rcases List.mem_append.mp hp with hp | hp
  · exact .inr (ok p hp)
  · refine .inl ⟨List.mem_append_right _ hp, fun q => ?_⟩
    exact (List.nodup_append.mp nd).2.2 _ q _ (List.mem_map.mpr ⟨p, hp, rfl⟩) rfl
noncomputable def marks (ps : List (Addr × List Node)) (j : Nat) : List (Addr × Bool × List Node) := (ps.take j).map (fun p => (p.1, true, p.2)) ++ (ps.drop j).map (fun p => (p.1, false, p.2))
theorem marks_at {ps : List (Addr × List Node)} {j : Nat} {b : Addr} {l : List Node} (h : ps[j]? = some (b, l)) :
    marks ps j = (ps.take j).map (fun p => (p.1, true, p.2)) ++ (b, false, l) :: (ps.drop (j + 1)).map (fun p => (p.1, false, p.2)) ∧
    marks ps (j + 1) = (ps.take j).map (fun p => (p.1, true, p.2)) ++ (b, true, l) :: (ps.drop (j + 1)).map (fun p => (p.1, false, p.2)) := by
  have hj : j < ps.length := by
    rcases Nat.lt_or_ge j ps.length with q | q
    · exact q
    · rw [List.getElem?_eq_none q] at h; cases h
  have e : ps.drop j = (b, l) :: ps.drop (j + 1) := by
    rw [List.drop_eq_getElem_cons hj]; rw [List.getElem?_eq_getElem hj] at h; simp at h; rw [h]
  constructor
  · unfold marks; rw [e]; rfl
  · unfold marks; rw [List.take_add_one, h]; simp
section
variable {prog : Program} {w : World} {hb : Heap} {K : Frag}
theorem piece_parts {g : FH} {m : Int} {Lr : Led} {v : Value} {vs : List Value} {n : Node} {ns : List Node} (h : PsV g Lr (v :: vs) (n :: ns)) (hg : GoodN m n) :
    ∃ (parts : List (Addr × List Node)) (x p : Addr) (v2 v3 : Value) (Lp Lr' : Led), v = .ref x ∧ Lr = Lp ++ Lr' ∧ PP g x (.ref p) v2 v3 ∧ [v2, v3].filter (· != .none) = parts.map (fun q => .ref q.1) ∧ (v2 = .none ∨ ∃ b, v2 = .ref b) ∧ (v3 = .none ∨ ∃ b, v3 = .ref b) ∧
      PL g (marks parts 0) Lp ∧ PsV g Lr' vs ns ∧ (∀ q ∈ parts, depL q.2 + 1 ≤ depN n ∧ (flatL q.2).length ≤ (flatN n).length ∧ GoodL m q.2) ∧
      ∀ {g' : FH} {Lp' : Led}, GLe g g' → PL g' (marks parts parts.length) Lp' → PsV g' Lp' [.ref x] [joinN n] := by
  cases h with
  | leaf a b c =>
    refine ⟨[], _, _, _, _, [], Lr, rfl, rfl, a, rfl, .inl rfl, .inl rfl, .nil, c, by simp, fun le h' => ?_⟩
    cases h'
    exact .leaf (a.mono le) (b.mono le) .nil
  | @one x p b op L1 xs l L _ _ a a' c d =>
    refine ⟨[(b, l)], _, _, _, _, (b, IsL xs) :: (L1 ++ []), L, rfl, by simp, a, rfl, .inr ⟨_, rfl⟩, .inl rfl, ?_, d, ?_, fun le h' => ?_⟩
    · exact PL.cons (b := b) (d := false) (l := l) c .nil
    · intro q hq; rw [List.mem_singleton.mp hq]; exact ⟨by simp [depN], by simp [flatN]; lia, hg.2⟩
    · cases h' with | cons e f => cases f; exact .one (a.mono le) (a'.mono le) e .nil
  | @two x p b c op L1 xs l L2 ys k L _ _ a a' d e f =>
    refine ⟨[(b, l), (c, k)], _, _, _, _, (b, IsL xs) :: (L1 ++ ((c, IsL ys) :: (L2 ++ []))), L, rfl, by simp, a, rfl, .inr ⟨_, rfl⟩, .inr ⟨_, rfl⟩, ?_, f, ?_, fun le h' => ?_⟩
    · exact PL.cons (b := b) (d := false) (l := l) d (PL.cons (b := c) (d := false) (l := k) e .nil)
    · intro q hq
      simp only [List.mem_cons, List.mem_nil_iff, or_false] at hq
      rcases hq with rfl | rfl
      · exact ⟨by simp [depN]; exact Nat.le_max_left .., by simp [flatN]; lia, hg.2.1⟩
      · exact ⟨by simp [depN]; exact Nat.le_max_right .., by simp [flatN]; lia, hg.2.2⟩
    · cases h' with | cons e1 f1 => cases f1 with | cons e2 f2 => cases f2; exact .two (a.mono le) (a'.mono le) e1 e2 .nil
theorem join_c (W : Wld hb) (O : Wob hb K) {m : Int} : ∀ (k : Nat) {A : Around} {g : FH} {s : Shared} {R : Result → Shared → Prop} {a : Addr} {ys : List Value} {nl : List Node} {L : Led}, Room (k + 7) A → Frz hb g s → PsV g L ys nl →
    (∀ p ∈ (a, IsL ys) :: L, ∃ o, s.heap.get? p.1 = some o ∧ p.2 o) → (((a, IsL ys) :: L).map (·.1)).Nodup → (∀ p ∈ (a, IsL ys) :: L, g p.1 = none) → depL nl ≤ k → (flatL nl).length ≤ 5500 → GoodL m nl →
    (∀ s' g' ys' L', Ext (((a, IsL ys) :: L).map (·.1)) s s' → Grown g s g' s' → L'.map (·.1) = L.map (·.1) → PsV g' L' ys' (joinL nl) → (∀ p ∈ (a, IsL ys') :: L', ∃ o, s'.heap.get? p.1 = some o ∧ p.2 o) → R (.ok (.ret .none)) s') →
    codeAny (model prog w) A (.call (.ref 248) ⟨[.ref a], []⟩) R s := by
  intro k
  induction k using Nat.strongRecOn with
  | ind k ih =>
  intro A g s R a ys nl L room hz hv hok hnd hgn hdp hlen hgood cont
  refine start (led := (a, IsL ys) :: L) (((a, IsL ys) :: L).map (·.1)) [(n_pieces, .ref a)] [n_found, n_piece, n_part] [n_join_locals, n_join_last]
    (ns := [n_pieces, n_found, n_piece, n_part]) (vs := [some (.ref a), none, none, none]) W.fn_wjoin (room_depth room) hz (BindsTo.of_eq rfl) rfl rfl (by decide +kernel) hok hnd (fun p hp => ⟨hgn p hp, List.mem_map.mpr ⟨p, hp, rfl⟩⟩) ?_
  intro env E s₁ hG σ
  have R1 : Room (k + 6) (A.deeper env) := room.deeper
  have hA : (A.deeper env).handled = none := R1.1
  have hsl : sizeLine = 16777216 := rfl
  (show wpAny _ _ (execs (_ :: _) _) _ _ _; dsimp only [qn_BLOCK, qn_DROP, qn_ELSE, qn_END, qn_FUNCTION, qn_Func, qn_IF, qn_LOCAL_GET, qn_LOCAL_SET, qn_LOCAL_TEE, qn_LOOP, qn_Module, qn_Piece, qn__name__, qn_law_behind, qn_law_flat, qn_law_is_kept_right, qn_law_items, qn_law_join, qn_law_joined, qn_law_kept, qn_law_next, qn_law_pick, qn_law_run, qn_law_two, qn_wall, qn_ahead, qn_at, qn_body, qn_body_of, qn_codes, qn_deep, qn_due, qn_first, qn_found, qn_func, qn_given, qn_height, qn_here, qn_index, qn_inner, qn_int, qn_is_else, qn_items, qn_join_last, qn_join_locals, qn_k, qn_kept, qn_kind, qn_len, qn_list, qn_local, qn_locals_now, qn_many, qn_module, qn_name, qn_number, qn_one, qn_opened, qn_other, qn_out, qn_own, qn_params, qn_part, qn_parts_of, qn_piece, qn_pieces, qn_pieces_of, qn_place, qn_places, qn_plain, qn_property, qn_put_pieces, qn_range, qn_read, qn_rest, qn_script, qn_second, qn_self, qn_sign, qn_sort, qn_stack, qn_state, qn_sum, qn_tape, qn_thing, qn_things, qn_told, qn_tuple, qn_turn, qn_two, qn_values, qn_way, qn_without_locals, qn_word])
  walk_at "W"
  rcases (⟨la, rfl⟩ : ∃ x, x = la) with ⟨fa, rfl⟩
  refine xs_for ?_ (by intro _; with_unfolding_all rfl)
  walk_at "W"
  have hll := hv.length
  have hfl0 := flatL_length nl
  refine for_list σ hA a ys (fun i vs' led' g' => ∃ (zs : List Value) (fl : List Node) (Ld Lr : Led) (x1 x2 : Option Value), vs' = [some (.ref a), some (.ref fa), x1, x2] ∧ led' = (fa, IsL zs) :: (a, IsL ys) :: (Ld ++ Lr) ∧ GLe g g' ∧
      PsV g' Ld zs fl ∧ PsV g' Lr (ys.drop i) (nl.drop i) ∧ Steps (joinM (nl.take i)) fl ∧ Normal fl ∧ (Ld ++ Lr).map (·.1) = L.map (·.1))
    ?_ ⟨[], [], [], L, _, _, rfl, rfl, .refl, .nil, hv, .refl, step1_none rfl, rfl⟩ ?_ ?_ (.inl ⟨_, _, rfl⟩)
  · rintro i _ _ g' s' ⟨_, _, _, _, _, _, rfl, rfl, _⟩ σ
    exact σ.HL (.tail .head)
  · clear σ
    rintro i v s₂ _ _ g₂ it E₂ TT hN hT hx ⟨zs, fl, Ld, Lr, x1, x2, rfl, rfl, le, hd, hr, hst, hno, had⟩ σ
    have hi : i < ys.length := by
      rcases Nat.lt_or_ge i ys.length with q | q
      · exact q
      · rw [List.getElem?_eq_none q] at hx; cases hx
    have e1 : ys.drop i = v :: ys.drop (i + 1) := by
      rw [List.drop_eq_getElem_cons hi]; rw [List.getElem?_eq_getElem hi] at hx; simp at hx; rw [hx]
    have hi2 : i < nl.length := Nat.lt_of_lt_of_le hi (Nat.le_of_eq hll)
    obtain ⟨n, hn⟩ : ∃ n, nl[i]? = some n := ⟨_, List.getElem?_eq_getElem hi2⟩
    have e2 : nl.drop i = n :: nl.drop (i + 1) := by
      rw [List.drop_eq_getElem_cons hi2]; rw [List.getElem?_eq_getElem hi2] at hn; simp at hn; rw [hn]
    rw [e1, e2] at hr
    have hgn' := hgood.get hn
    obtain ⟨parts, x, p, v2, v3, Lp, Lr', rfl, rfl, hpp, hfil, h2, h3, hpl, hr', hpt, hre⟩ := piece_parts hr hgn'
    have hfl := flatN_le hn
    have hdn := depN_le hn
    walk_at "W"
    refine xs_for ?_ (by intro _; with_unfolding_all rfl)
    obtain ⟨n0, hn0, hpg⟩ := id hpp
    refine' e_meth0 O.kin O.P O.parts ?_ ?k1
    case k1 => with_unfolding_all rfl
    walk_at "W"
    refine ⟨x, n0, _, rfl, σ.PG hpg, pA_parts .., σ.hbs, w_call (pparts_c W O R1.le σ.fz hpg h2 h3 fun s₃ g₃ pc xx y hpc => rv ?_)⟩
    replace σ := σ.growN xx y
    rw [hfil] at hpc
    have le3 : GLe g₂ g₃ := y.ggr
    refine for_list σ hA pc (parts.map fun q => .ref q.1) (fun j vs' led' g' => ∃ (Lq : Led) (x2 : Option Value), vs' = [some (.ref a), some (.ref fa), some (.ref x), x2] ∧ led' = (it, IsLI a (i + 1)) :: (fa, IsL zs) :: (a, IsL ys) :: (Ld ++ (Lq ++ Lr')) ∧ GLe g₃ g' ∧
        PL g' (marks parts j) Lq ∧ Lq.map (·.1) = Lp.map (·.1)) ?_ ⟨Lp, _, rfl, rfl, .refl, hpl.mono le3, rfl⟩ ?_ ?_ (.inl ⟨_, _, rfl⟩)
    · rintro j _ _ g' s' ⟨_, _, rfl, rfl, le, _⟩ σ
      exact σ.HLg (hpc.mono le)
    · clear σ
      rintro j v s₄ _ _ g₄ it2 E₃ TT hK hT hx2 ⟨Lq, x2, rfl, rfl, le4, hpl4, had4⟩ σ
      obtain ⟨⟨b, l⟩, hb, rfl⟩ : ∃ q : Addr × List Node, parts[j]? = some q ∧ Value.ref q.1 = v := by
        rw [List.getElem?_map] at hx2
        obtain ⟨q, h1, h2⟩ := Option.map_eq_some_iff.mp hx2
        exact ⟨q, h1, h2⟩
      obtain ⟨hm0, hm1⟩ := marks_at hb
      rw [hm0] at hpl4
      obtain ⟨La, L1, xs, Lb, rfl, hps, hbk⟩ := hpl4.at
      obtain ⟨hq1, hq2, hq3⟩ := hpt _ (List.mem_of_getElem? hb)
      simp only at hq1 hq2 hq3
      walk_at "W"
      refine e_call σ hG W.gv_wjoin W.fn_wjoin (by walk_at "in") ?_
      walk_at "W"
      replace σ := σ.perm (led' := ((b, IsL xs) :: L1) ++ ((it2, IsLI pc (j + 1)) :: (it, IsLI a (i + 1)) :: (fa, IsL zs) :: (a, IsL ys) :: (Ld ++ (La ++ (Lb ++ Lr'))))) (by simp only [List.cons_append]; (classical (rw [List.perm_iff_count]; intro x; simp only [List.count_cons, List.count_append, List.count_nil]; lia)))
      have nd := (List.nodup_cons.mp σ.nodup).2
      rw [List.map_append] at nd
      refine ⟨σ.hbs, w_call (ih (depL l) (Nat.lt_of_lt_of_le hq1 (Nat.le_trans hdn hdp)) (R1.le (Nat.add_le_add_right (Nat.lt_of_lt_of_le hq1 (Nat.le_trans hdn hdp)) 6)) σ.fz hps (fun p hp => σ.lok p (List.mem_append_left _ hp)) (List.nodup_append.mp nd).1 (fun p hp => σ.gl (Mem.of_mem (List.mem_append_left _ hp))) (Nat.le_refl _) (Nat.le_trans hq2 (Nat.le_trans (Nat.le_add_left _ _) (Nat.le_trans hfl hlen))) hq3 fun s₅ g₅ xs' L1' xx y hadL hps' hok' => rv ?_)⟩
      have σ2 := σ.modFront (M' := (b, IsL xs') :: L1') xx (by simp [hadL]) hok'
      replace σ := σ.back σ2 (by simp [hadL]) y
      walk_at "W"
      refine hK _ _ _ _ ⟨La ++ ((b, IsL xs') :: (L1' ++ Lb)), _, rfl, rfl, le4.trans y.ggr, by rw [hm1]; exact hbk y.ggr hps', ?_⟩ (σ.perm ?_)
      · rw [← had4]; simp [hadL]
      · simp only [List.cons_append]; (classical (rw [List.perm_iff_count]; intro x; simp only [List.count_cons, List.count_append, List.count_nil]; lia))
    · clear σ
      rintro s₄ _ _ g₄ ⟨Lq, x2, rfl, rfl, le4, hpl4, had4⟩ σ
      rw [List.length_map] at hpl4
      have hnode := hre (le3.trans le4) hpl4
      walk_at "W"
      refine m_append ?_
      walk_at "W"
      refine k_app1 (σ.HL (.tail .head)) ?_
      walk_at "W"
      have hstl := hst.len
      rw [joinM_len, List.length_take] at hstl
      have hzd := hd.length
      refine ⟨_, σ.HL (.tail .head), sz (Nat.le_trans (Nat.le_of_eq hzd) (Nat.le_trans hstl (Nat.le_trans (Nat.min_le_right _ _) (Nat.le_trans hfl0 hlen)))) rfl, fun s₅ xx hl5 => ?_⟩
      replace σ := σ.modL (.tail .head) xx hl5
      clear xx hl5
      have hd5 : PsV g₄ (Ld ++ Lq) (zs ++ [.ref x]) (fl ++ [joinN n]) := (hd.mono (le3.trans le4)).append hnode
      have hst5 : Steps (joinM (nl.take (i + 1))) (fl ++ [joinN n]) := by rw [joinM_take hn]; exact hst.post _
      have hgd5 : GoodL m (joinM (nl.take (i + 1))) := by
        refine joinM_good ?_
        have := hgood
        rw [← List.take_append_drop (i + 1) nl] at this
        exact (GoodL.append.mp this).1
      walk_at "W"
      refine xs_while (fun k s' => ∃ zs' fl' g', k = fl'.length ∧ GLe g₄ g' ∧ PsV g' (Ld ++ Lq) zs' fl' ∧ Steps (joinM (nl.take (i + 1))) fl' ∧ (Normal fl' ∨ ∃ pre n', fl' = pre ++ [n'] ∧ Normal pre) ∧
        S hb s (((a, IsL ys) :: L).map (·.1)) g env [n_pieces, n_found, n_piece, n_part] [some (.ref a), some (.ref fa), some (.ref x), x2] ((it, IsLI a (i + 1)) :: (fa, IsL zs') :: (a, IsL ys) :: (Ld ++ (Lq ++ Lr'))) g' s')
        (fl ++ [joinN n]).length ⟨_, _, _, rfl, .refl, hd5, hst5, .inr ⟨_, _, rfl, hno⟩, σ⟩ ?_
      clear σ
      rintro k₀ s₆ E₃ TT hU ⟨zs', fl', g₆, rfl, le6, hd6, hst6, hno6, σ⟩
      have hst6l := hst6.len
      rw [joinM_len, List.length_take] at hst6l
      refine t_value ?_
      refine e_call σ hG W.gv_wlast W.fn_wlast (by walk_at "in") ?_
      walk_at "W"
      refine ⟨σ.hbs, w_call (last_c W O R1.le σ.fz (σ.HL (.tail .head)) (σ.gl (.tail .head)) hd6.heads (hst6.good hgd5) (by lia) (fun s₇ g₇ xx y hl7 hnl => rv ?_) (fun s₇ g₇ yp u v zz pre na nb xs' ezs efl hyl htw xx y hl7 hzz => rv ?_))⟩
      · replace σ := σ.back (σ.modL (.tail .head) xx hl7) rfl y
        have hnf : Normal fl' := by
          rcases hno6 with h | ⟨pre, n', e, h⟩
          · exact h
          · exact noLast_normal e h hnl
        walk_at "W"
        refine ⟨zs', fl', Ld ++ Lq, Lr', _, _, rfl, by simp, le.trans (le3.trans (le4.trans (le6.trans y.ggr))), hd6.mono y.ggr, hr'.mono (le3.trans (le4.trans (le6.trans y.ggr))), hst6, hnf, ?_⟩
        rw [← had]; simp [had4]
      · subst ezs efl
        replace σ := σ.back (σ.modL (.tail .head) xx hl7) rfl y
        have htwo := two_of htw
        walk_at "W"
        have hxl : xs'.length ≤ 1 := by cases htwo <;> simp
        have hpn : Normal pre := by
          rcases hno6 with h | ⟨P, n', e, h⟩
          · exact absurd (Stp.mk pre na nb xs' [] htwo) (h _)
          · have e2 : P = pre ++ [na] := by
              have : pre ++ [na, nb] = (pre ++ [na]) ++ [nb] := by simp
              rw [this] at e
              exact (List.append_inj' e rfl).1.symm
            subst e2
            intro m' s'
            exact h _ (s'.post [na])
        refine ⟨(pre ++ xs').length, by simp; lia, yp ++ zz, pre ++ xs', g₇, rfl, le6.trans y.ggr, hd6.last y.ggr hyl htwo hzz, hst6.trans (.tail (by simpa using Stp.mk pre na nb xs' [] htwo) .refl), ?_, σ⟩
        match xs', hxl with
        | [], _ => exact .inl (by simpa using hpn)
        | [z], _ => exact .inr ⟨pre, z, rfl, hpn⟩
  · clear σ
    rintro s₂ _ _ g₂ ⟨zs, fl, Ld, Lr, x1, x2, rfl, rfl, le, hd, hr, hst, hno, had⟩ σ
    rw [List.drop_length, hll, List.drop_length] at hr
    cases hr
    rw [List.append_nil] at σ had
    have hzl := hd.length
    have hsl2 := hst.len
    rw [hll, List.take_length, joinM_len] at hsl2
    walk_at "W"
    (refine ⟨_, _, _, σ, ?_⟩; clear σ; intro sa gsl _ σ hgs hsg)
    have hne : a ≠ fa := by
      have := σ.nodup
      simp only [List.map_cons, List.nodup_cons, List.mem_cons] at this
      intro e; exact this.2.1 (.inl e.symm)
    refine st_whole (σ.HL (.tail .head)) (σ.SG hsg) (σ.HL .head) hne (by lia) fun s14 xx hl14 => ?_
    replace σ := σ.modL (.tail .head) xx hl14
    walk_at "W"
    rw [hll, List.take_length] at hst
    have hj : joinL nl = fl := (nf_is hst hno).symm
    exact cont _ _ zs Ld σ.ext σ.grownOf had (hj ▸ hd.mono hgs) fun p hp => σ.lok p (.tail _ hp)
end
mutual
theorem flatN_ok {m : Int} : ∀ {n : Node}, GoodN m n → ∀ op ∈ flatN n, op ≠ []
  | .leaf op, h, o, ho => by
    rw [flatN, List.mem_singleton] at ho; subst ho
    obtain ⟨c, t, rfl, _⟩ := LeafOp.ok h; simp
  | .one op l, h, o, ho => by
    simp only [flatN, List.mem_cons, List.mem_append, List.mem_nil_iff, or_false] at ho
    rcases ho with rfl | ho | rfl
    · rcases h.1 with rfl | rfl | rfl <;> simp
    · exact flatL_ok h.2 o ho
    · simp
  | .two op l k, h, o, ho => by
    simp only [flatN, List.mem_cons, List.mem_append, List.mem_nil_iff, or_false] at ho
    rcases ho with rfl | ho | rfl | ho | rfl
    · rw [h.1]; simp
    · exact flatL_ok h.2.1 o ho
    · simp
    · exact flatL_ok h.2.2 o ho
    · simp
theorem flatL_ok {m : Int} : ∀ {l : List Node}, GoodL m l → ∀ op ∈ flatL l, op ≠ []
  | [], _, o, ho => by simp [flatL] at ho
  | n :: r, h, o, ho => by
    rw [flatL, List.mem_append] at ho
    rcases ho with ho | ho
    · exact flatN_ok h.1 o ho
    · exact flatL_ok h.2 o ho
end
theorem opsOk_flat {m : Int} {l : List Node} (h : GoodL m l) : OpsOk (flatL l) := flatL_ok h
theorem opsOk_end {ops : List (List Int)} (h : OpsOk ops) : OpsOk (ops ++ [[11]]) := by
  intro op ho
  rcases List.mem_append.mp ho with ho | ho
  · exact h op ho
  · rw [List.mem_singleton.mp ho]; simp
section
variable {prog : Program} {w : World} {hb : Heap} {K : Frag}
theorem jn_c (W : Wld hb) (O : Wob hb K) {m : Int} {A : Around} {g : FH} {s : Shared} {R : Result → Shared → Prop} {a : Addr} {xs : List Value} {l : List Node} (room : Room 12 A) (hz : Frz hb g s) (ha : LG g a xs) (hv : OpsV g xs (flatL l ++ [[11]])) (hgood : GoodL m l) (hdp : depL l ≤ 3) (hlen : (flatL l).length ≤ 5500)
    (cont : ∀ s' g' c ws, Ext [] s s' → Grown g s g' s' → LG g' c ws → OpsV g' ws (flatL (joinL l) ++ [[11]]) → R (.ok (.ret (.ref c))) s') :
    codeAny (model prog w) A (.call (.ref 321) ⟨[.ref a], []⟩) R s := by
  refine start (led := []) [] [(n_body, .ref a)] [n_pieces] [n_pieces_of, n_join_locals, n_body_of]
    (ns := [n_body, n_pieces]) (vs := [some (.ref a), none]) W.fn_wjn (room_depth room) hz (BindsTo.of_eq rfl) rfl rfl (by decide +kernel) (by simp) (by simp) (by simp) ?_
  intro env E s₁ hG σ
  have R1 : Room 11 (A.deeper env) := room.deeper
  (show wpAny _ _ (execs (_ :: _) _) _ _ _; dsimp only [qn_BLOCK, qn_DROP, qn_ELSE, qn_END, qn_FUNCTION, qn_Func, qn_IF, qn_LOCAL_GET, qn_LOCAL_SET, qn_LOCAL_TEE, qn_LOOP, qn_Module, qn_Piece, qn__name__, qn_law_behind, qn_law_flat, qn_law_is_kept_right, qn_law_items, qn_law_join, qn_law_joined, qn_law_kept, qn_law_next, qn_law_pick, qn_law_run, qn_law_two, qn_wall, qn_ahead, qn_at, qn_body, qn_body_of, qn_codes, qn_deep, qn_due, qn_first, qn_found, qn_func, qn_given, qn_height, qn_here, qn_index, qn_inner, qn_int, qn_is_else, qn_items, qn_join_last, qn_join_locals, qn_k, qn_kept, qn_kind, qn_len, qn_list, qn_local, qn_locals_now, qn_many, qn_module, qn_name, qn_number, qn_one, qn_opened, qn_other, qn_out, qn_own, qn_params, qn_part, qn_parts_of, qn_piece, qn_pieces, qn_pieces_of, qn_place, qn_places, qn_plain, qn_property, qn_put_pieces, qn_range, qn_read, qn_rest, qn_script, qn_second, qn_self, qn_sign, qn_sort, qn_stack, qn_state, qn_sum, qn_tape, qn_thing, qn_things, qn_told, qn_tuple, qn_turn, qn_two, qn_values, qn_way, qn_without_locals, qn_word])
  walk_at "W"
  refine e_call σ hG W.gv_wpieces_of W.fn_wpieces_of (by walk_at "in") ?_
  walk_at "W"
  refine ⟨σ.hbs, w_call (pieces_of_c W O R1.le σ.fz ha hv (opsOk_flat hgood) hlen (zrun_flat hgood) fun s₂ g₂ h ys L x y hps hnl => rv ?_)⟩
  replace σ := σ.adopt x y hnl
  rw [List.append_nil] at σ
  walk_at "W"
  refine e_call σ hG W.gv_wjoin W.fn_wjoin (by walk_at "in") ?_
  walk_at "W"
  have nd := (List.nodup_cons.mp σ.nodup).2
  refine ⟨σ.hbs, w_call (join_c W O (m := m) 3 R1.le σ.fz hps σ.lok nd (fun p hp => σ.gl (Mem.of_mem hp)) hdp hlen hgood fun s₃ g₃ ys' L' x y had hps' hok => rv ?_)⟩
  have σ2 := S.modFront (M := (h, IsL ys) :: L) (M' := (h, IsL ys') :: L') (rest := []) (by rw [List.append_nil]; exact σ) x (by simp [had]) hok
  rw [List.append_nil] at σ2
  replace σ := σ.back σ2 (by simp [had]) y
  clear σ2
  have σ3 : S hb s [] g env [n_body, n_pieces] [some (Value.ref a), some (Value.ref h)] (((h, IsL ys') :: L') ++ []) g₃ s₃ := by simpa using σ
  obtain ⟨g₄, le4, hfz, σ⟩ := S.frzAll σ3
  obtain ⟨o, ho, hio⟩ := hfz (h, IsL ys') (.head _)
  have hlg : LG g₄ h ys' := ⟨o, ho, hio⟩
  have hpz : PzV g₄ ys' (joinL l) := (hps'.mono le4).fz fun p hp => hfz p (.tail _ hp)
  walk_at "W"
  refine e_call σ hG W.gv_wbody W.fn_wbody (by walk_at "in") ?_
  walk_at "W"
  have hj1 := joinL_flat l
  have hj2 := joinL_dep l
  refine ⟨σ.hbs, w_call (body_of_c W O R1.le σ.fz hlg hpz (by lia) (by lia) fun s₅ g₅ c ws x y hlg5 hov => rv ?_)⟩
  replace σ := σ.growN x y
  walk_at "W"
  exact cont _ _ _ _ σ.ext σ.grownOf hlg5 hov
end
noncomputable def fA (v1 v2 v3 : Value) : Str → Option Value := setA (setA (setA (fun _ => none) n_kind v1) (Str.ofString "locals") v2) n_body v3
theorem fA_kind (v1 v2 v3 : Value) : fA v1 v2 v3 n_kind = some v1 := by with_unfolding_all rfl
theorem fA_locals (v1 v2 v3 : Value) : fA v1 v2 v3 (Str.ofString "locals") = some v2 := by with_unfolding_all rfl
theorem fA_body (v1 v2 v3 : Value) : fA v1 v2 v3 n_body = some v3 := by with_unfolding_all rfl
theorem fA_plain (v1 v2 v3 : Value) : fA v1 v2 v3 n_plain = none := by with_unfolding_all rfl
section
variable {prog : Program} {w : World} {hb : Heap} {K : Frag}
variable {A : Around} {E : Value → Shared → Prop} {s0 : Shared} {mods : List Addr} {g0 g : FH} {env : Env} {ns : List Str} {vs : List (Option Value)} {led : Led} {s : Shared}
theorem finit_c (W : Wld hb) (O : Wob hb K) {R : Result → Shared → Prop} (room : A.depth < recursionLimit) (hz : Frz hb g s) {x dx : Addr} {v1 v2 v3 : Value} (hx : g x = some (instObj 45 dx))
    (hdx : ∃ o, s.heap.get? dx = some o ∧ IsA 0 (fun _ => none) o) (hg : g dx = none)
    (k : ∀ s', Ext [dx] s s' → (∃ o, s'.heap.get? dx = some o ∧ IsA 3 (fA v1 v2 v3) o) → R (.ok (.ret .none)) s') :
    codeAny (model prog w) A (.call (.ref 35) ⟨[.ref x, v1, v2, v3], []⟩) R s := by
  refine start (led := [(dx, IsA 0 fun _ => none)]) [dx] [(n_self, .ref x), (n_kind, v1), (n_locals_now, v2), (n_body, v3)] [] []
    (ns := [n_self, n_kind, n_locals_now, n_body]) (vs := [some (.ref x), some v1, some v2, some v3]) W.fn_finit room hz (BindsTo.of_eq rfl) rfl rfl (by decide +kernel) (by simpa using hdx) (by simp) (by simpa using hg) ?_
  intro env E s₁ hG σ
  (show wpAny _ _ (execs (_ :: _) _) _ _ _; dsimp only [qn_BLOCK, qn_DROP, qn_ELSE, qn_END, qn_FUNCTION, qn_Func, qn_IF, qn_LOCAL_GET, qn_LOCAL_SET, qn_LOCAL_TEE, qn_LOOP, qn_Module, qn_Piece, qn__name__, qn_law_behind, qn_law_flat, qn_law_is_kept_right, qn_law_items, qn_law_join, qn_law_joined, qn_law_kept, qn_law_next, qn_law_pick, qn_law_run, qn_law_two, qn_wall, qn_ahead, qn_at, qn_body, qn_body_of, qn_codes, qn_deep, qn_due, qn_first, qn_found, qn_func, qn_given, qn_height, qn_here, qn_index, qn_inner, qn_int, qn_is_else, qn_items, qn_join_last, qn_join_locals, qn_k, qn_kept, qn_kind, qn_len, qn_list, qn_local, qn_locals_now, qn_many, qn_module, qn_name, qn_number, qn_one, qn_opened, qn_other, qn_out, qn_own, qn_params, qn_part, qn_parts_of, qn_piece, qn_pieces, qn_pieces_of, qn_place, qn_places, qn_plain, qn_property, qn_put_pieces, qn_range, qn_read, qn_rest, qn_script, qn_second, qn_self, qn_sign, qn_sort, qn_stack, qn_state, qn_sum, qn_tape, qn_thing, qn_things, qn_told, qn_tuple, qn_turn, qn_two, qn_values, qn_way, qn_without_locals, qn_word])
  walk_at "W"
  refine a_set σ O.kin O.F (σ.gin _ _ hx) .head (by decide) (by decide +kernel) ?_
  clear σ; intro s₂ σ
  walk_at "W"
  refine a_set σ O.kin O.F (σ.gin _ _ hx) .head (by decide) (by decide +kernel) ?_
  clear σ; intro s₃ σ
  walk_at "W"
  refine a_set σ O.kin O.F (σ.gin _ _ hx) .head (by decide) (by decide +kernel) ?_
  clear σ; intro s₄ σ
  walk_at "W"
  exact k _ σ.ext (σ.get .head)
theorem k_func (W : Wld hb) (O : Wob hb K) (σ : S hb s0 mods g0 env ns vs led g s) (room : Room 3 A) {v1 v2 v3 : Value} {Q : Value → Shared → Prop}
    (h : ∀ x g' s', S hb s0 mods g0 env ns vs led g' s' → GLe g g' → PG g' x 45 3 (fA v1 v2 v3) → Q (.ref x) s') :
    wpAny (model prog w) A (call (.ref 45) [v1, v2, v3]) Q E s := by
  refine k_make σ O.kin O.F ?_
  clear σ; intro x dx s₁ σ hf le
  have R1 : Room 2 (A.under (.builtin "type.__call__" ⟨.ref 45 :: [v1, v2, v3], []⟩)) := room_under room
  refine finit_c W O (room_depth R1) σ.fz FH.put_self (σ.get .head) (σ.gl .head) fun s' xx hd => ⟨rfl, rv ?_⟩
  obtain ⟨o, e, i⟩ := hd
  replace σ := σ.mod .head xx e i
  obtain ⟨o', hi, _, σ', le'⟩ := σ.frz (.refl _) hf
  exact h _ _ _ σ' (GLe.trans le le') ⟨dx, o', le' _ _ FH.put_self, FH.put_self, hi⟩
theorem fplain_c (W : Wld hb) (O : Wob hb K) {R : Result → Shared → Prop} (room : Room 3 A) (hz : Frz hb g s) {x tl bl : Addr} {n : Nat} {v1 : Value} {ls xs : List Value} (hx : PG g x 45 n (fA v1 (.ref tl) (.ref bl))) (h1 : handedIn v1 = true) (htl : TG g tl ls) (hbl : LG g bl xs) (hlen : xs.length ≤ 100000)
    (k : ∀ s' g' t bt, Ext [] s s' → Grown g s g' s' → TG g' t [v1, .ref tl, .ref bt] → TG g' bt xs → R (.ok (.ret (.ref t))) s') :
    codeAny (model prog w) A (.call (.ref 42) ⟨[.ref x], []⟩) R s := by
  refine start (led := []) [] [(n_self, .ref x)] [] [n_tuple] (ns := [n_self]) (vs := [some (.ref x)]) W.fn_fplain (room_depth room) hz (BindsTo.of_eq rfl) rfl rfl (by decide +kernel) (by simp) (by simp) (by simp) ?_
  intro env E s₁ hG σ
  have hsl : sizeLine = 16777216 := rfl
  (show wpAny _ _ (execs (_ :: _) _) _ _ _; dsimp only [qn_BLOCK, qn_DROP, qn_ELSE, qn_END, qn_FUNCTION, qn_Func, qn_IF, qn_LOCAL_GET, qn_LOCAL_SET, qn_LOCAL_TEE, qn_LOOP, qn_Module, qn_Piece, qn__name__, qn_law_behind, qn_law_flat, qn_law_is_kept_right, qn_law_items, qn_law_join, qn_law_joined, qn_law_kept, qn_law_next, qn_law_pick, qn_law_run, qn_law_two, qn_wall, qn_ahead, qn_at, qn_body, qn_body_of, qn_codes, qn_deep, qn_due, qn_first, qn_found, qn_func, qn_given, qn_height, qn_here, qn_index, qn_inner, qn_int, qn_is_else, qn_items, qn_join_last, qn_join_locals, qn_k, qn_kept, qn_kind, qn_len, qn_list, qn_local, qn_locals_now, qn_many, qn_module, qn_name, qn_number, qn_one, qn_opened, qn_other, qn_out, qn_own, qn_params, qn_part, qn_parts_of, qn_piece, qn_pieces, qn_pieces_of, qn_place, qn_places, qn_plain, qn_property, qn_put_pieces, qn_range, qn_read, qn_rest, qn_script, qn_second, qn_self, qn_sign, qn_sort, qn_stack, qn_state, qn_sum, qn_tape, qn_thing, qn_things, qn_told, qn_tuple, qn_turn, qn_two, qn_values, qn_way, qn_without_locals, qn_word])
  walk_at "W"
  refine a_own σ O.kin O.F (σ.PG hx) (by decide +kernel) (fA_kind ..) h1 ?_
  clear σ; intro s₂ σ
  walk_at "W"
  refine e_type1 σ hG W.bv_tuple (by walk_at "in") ?_
  walk_at "W"
  refine a_own σ O.kin O.F (σ.PG hx) (by decide +kernel) (fA_locals ..) rfl ?_
  clear σ; intro s₃ σ
  refine k_tupleT (σ.HT htl) ?_
  walk_at "W"
  refine e_type1 σ hG W.bv_tuple (by walk_at "in") ?_
  walk_at "W"
  refine a_own σ O.kin O.F (σ.PG hx) (by decide +kernel) (fA_body ..) rfl ?_
  clear σ; intro s₄ σ
  refine k_tupleL σ (σ.HLg hbl).isList (by lia) ?_
  clear σ; intro bt g₅ s₅ σ le5 hbt
  walk_at "W"
  exact k _ _ _ _ σ.ext σ.grownOf htg (hbt.mono hgg)
theorem minit_c (W : Wld hb) (O : Wob hb K) {R : Result → Shared → Prop} (room : A.depth < recursionLimit) (hz : Frz hb g s) {x dx : Addr} (hx : g x = some (instObj 162 dx))
    (hdx : ∃ o, s.heap.get? dx = some o ∧ IsA 0 (fun _ => none) o) (hg : g dx = none)
    (k : ∀ s' f, Ext [dx] s s' → (∃ o, s'.heap.get? dx = some o ∧ IsA 11 f o) → R (.ok (.ret .none)) s') :
    codeAny (model prog w) A (.call (.ref 63) ⟨[.ref x], []⟩) R s := by
  refine start (led := [(dx, IsA 0 fun _ => none)]) [dx] [(n_self, .ref x)] [] []
    (ns := [n_self]) (vs := [some (.ref x)]) W.fn_minit room hz (BindsTo.of_eq rfl) rfl rfl (by decide +kernel) (by simpa using hdx) (by simp) (by simpa using hg) ?_
  intro env E s₁ hG σ
  (show wpAny _ _ (execs (_ :: _) _) _ _ _; dsimp only [qn_BLOCK, qn_DROP, qn_ELSE, qn_END, qn_FUNCTION, qn_Func, qn_IF, qn_LOCAL_GET, qn_LOCAL_SET, qn_LOCAL_TEE, qn_LOOP, qn_Module, qn_Piece, qn__name__, qn_law_behind, qn_law_flat, qn_law_is_kept_right, qn_law_items, qn_law_join, qn_law_joined, qn_law_kept, qn_law_next, qn_law_pick, qn_law_run, qn_law_two, qn_wall, qn_ahead, qn_at, qn_body, qn_body_of, qn_codes, qn_deep, qn_due, qn_first, qn_found, qn_func, qn_given, qn_height, qn_here, qn_index, qn_inner, qn_int, qn_is_else, qn_items, qn_join_last, qn_join_locals, qn_k, qn_kept, qn_kind, qn_len, qn_list, qn_local, qn_locals_now, qn_many, qn_module, qn_name, qn_number, qn_one, qn_opened, qn_other, qn_out, qn_own, qn_params, qn_part, qn_parts_of, qn_piece, qn_pieces, qn_pieces_of, qn_place, qn_places, qn_plain, qn_property, qn_put_pieces, qn_range, qn_read, qn_rest, qn_script, qn_second, qn_self, qn_sign, qn_sort, qn_stack, qn_state, qn_sum, qn_tape, qn_thing, qn_things, qn_told, qn_tuple, qn_turn, qn_two, qn_values, qn_way, qn_without_locals, qn_word])
  walk_at "W"
  refine a_set σ O.kin O.M (σ.gin _ _ hx) (.tail .head) (by decide) (by decide +kernel) ?_
  clear σ; intro s₂ σ
  replace σ := σ.drop (List.sublist_cons_self ..)
  iterate 6
    walk_at "W"
    refine a_set σ O.kin O.M (σ.gin _ _ hx) (.tail .head) (by decide) (by decide +kernel) ?_
    clear σ; intro s₂ σ
    replace σ := σ.drop (List.sublist_cons_self ..)
  walk_at "W"
  refine a_set σ O.kin O.M (σ.gin _ _ hx) .head (by decide) (by decide +kernel) ?_
  clear σ; intro s₂ σ
  iterate 3
    walk_at "W"
    refine a_set σ O.kin O.M (σ.gin _ _ hx) (.tail .head) (by decide) (by decide +kernel) ?_
    clear σ; intro s₂ σ
    replace σ := σ.drop (List.sublist_cons_self ..)
  walk_at "W"
  exact k _ _ σ.ext (σ.get .head)
theorem k_module (W : Wld hb) (O : Wob hb K) (σ : S hb s0 mods g0 env ns vs led g s) (room : Room 3 A) {Q : Value → Shared → Prop}
    (h : ∀ x dx f g' s', S hb s0 mods g0 env ns vs ((dx, IsA 11 f) :: led) g' s' → GLe g g' → g' x = some (instObj 162 dx) → s0.heap.get? dx = none → Q (.ref x) s') :
    wpAny (model prog w) A (call (.ref 162) []) Q E s := by
  refine k_make σ O.kin O.M ?_
  clear σ; intro x dx s₁ σ hf le
  have R1 : Room 2 (A.under (.builtin "type.__call__" ⟨.ref 162 :: [], []⟩)) := room_under room
  refine minit_c W O (room_depth R1) σ.fz FH.put_self (σ.get .head) (σ.gl .head) fun s' f xx hd => ⟨rfl, rv ?_⟩
  obtain ⟨o, e, i⟩ := hd
  exact h _ _ _ _ _ (σ.mod .head xx e i) le FH.put_self hf
end
noncomputable def ModG (g : FH) (mx : Addr) : Prop := ∃ n f kl kv, PG g mx 162 n f ∧ f (Str.ofString "kinds") = some (.ref kl) ∧ LG g kl kv ∧
  ∀ kind : Int, 0 ≤ kind → kind ≤ 1 → ∃ t a b lk, kv[kind.toNat]? = some (.ref t) ∧ TG g t [.ref a, b] ∧ TG g a lk ∧ (lk.length : Int) = 1 + kind
theorem ModG.mono {g g' : FH} (le : GLe g g') {mx : Addr} (h : ModG g mx) : ModG g' mx := by
  obtain ⟨n, f, kl, kv, a, b, c, d⟩ := h
  refine ⟨n, f, kl, kv, a.mono le, b, c.mono le, fun k h0 h1 => ?_⟩
  obtain ⟨t, a, b, lk, e, x, y, z⟩ := d k h0 h1
  exact ⟨t, a, b, lk, e, x.mono le, y.mono le, z⟩
section
variable {prog : Program} {w : World} {hb : Heap} {K : Frag}
section
variable {A : Around} {E : Value → Shared → Prop} {s0 : Shared} {mods : List Addr} {g0 g : FH} {env : Env} {ns : List Str} {vs : List (Option Value)} {led : Led} {s : Shared}
theorem k_lenT (σ : S hb s0 mods g0 env ns vs led g s) {a : Addr} {l : List Value} {Q : Value → Shared → Prop} (hl : HT s a l) (hs : l.length ≤ sizeLine) (h : ∀ t s', S hb s0 mods g0 env ns vs led g s' → Q (.int l.length t) s') :
    wpAny (model prog w) A (call (.builtin "len") [.ref a]) Q E s :=
  len_tuple hl.isTup (by have : sizeLine = 16777216 := rfl; simp only [List.size_toArray]; lia) (by simpa using h _ _ σ.toks)
end
theorem S.weak {s0 : Shared} {mods : List Addr} {g0 g : FH} {env : Env} {ns : List Str} {vs : List (Option Value)} {led led' : Led} {s : Shared} (σ : S hb s0 mods g0 env ns vs led g s) {a : Addr} {P P' : Obj → Prop} (u : Upd led a P P' led') (h : ∀ o, P o → P' o) : S hb s0 mods g0 env ns vs led' g s := by
  obtain ⟨o, e, q⟩ := σ.get u.toMem
  exact σ.mod u (Ext.refl.weaken (by simp)) e (h _ q)
noncomputable def RdD (prog : Program) (w : World) (ops : List (List Int)) (j : Nat) (o : Obj) : Prop := ∃ kvs, IsD (intKind prog w) kvs o ∧ kvs.length ≤ j ∧ ∀ i, (valueAt kvs i).isSome = rd (ops.take j) i
noncomputable def PlD (prog : Program) (w : World) (ops : List (List Int)) (p j : Nat) (o : Obj) : Prop := ∃ kvs, IsD (intKind prog w) kvs o ∧ kvs.length ≤ j ∧ ∀ i : Int, 0 ≤ i → i < j → (i < p ∨ rd ops i = true) → ∃ t, valueAt kvs i = some (.int (ren ops p i) t)

theorem without_c (W : Wld hb) (O : Wob hb K) {A : Around} {g : FH} {s : Shared} {R : Result → Shared → Prop} (room : Room 5 A) (hz : Frz hb g s) {mx fx ol bl : Addr} {n p : Nat} {kind : Int} {tk : Tok} {ov xs : List Value} {own : List Int} {ops : List (List Int)}
    (hm : ModG g mx) (hf : PG g fx 45 n (fA (.int kind tk) (.ref ol) (.ref bl))) (hk0 : 0 ≤ kind) (hk1 : kind ≤ 1) (hp : (p : Int) = 1 + kind) (hol : TG g ol ov) (hown : IntsAre ov own) (hol3 : own.length ≤ 3) (hbl : LG g bl xs) (hops : OpsV g xs ops)
    (hcase : ∀ op ∈ ops, OpCase ((p + own.length : Nat) : Int) op) (hlen : ops.length ≤ 6000)
    (cont : ∀ s' g' x kl kv bl' ys, Ext [] s s' → Grown g s g' s' → PG g' x 45 3 (fA (.int kind tk) (.ref kl) (.ref bl')) → TG g' kl kv → IntsAre kv (keptOwn ops p own) → LG g' bl' ys → OpsV g' ys (keptOps ops p ops) → R (.ok (.ret (.ref x))) s') :
    codeAny (model prog w) A (.call (.ref 255) ⟨[.ref mx, .ref fx], []⟩) R s := by
  refine start (led := []) [] [(n_module, .ref mx), (n_func, .ref fx)] [n_params, n_read, n_plain, n_places, n_kept, n_index, n_body] [n_len, n_LOCAL_GET, n_range, n_LOCAL_SET, n_DROP, n_LOCAL_TEE, n_Func, n_tuple]
    (ns := [n_module, n_func, n_params, n_read, n_plain, n_places, n_kept, n_index, n_body]) (vs := [some (.ref mx), some (.ref fx), none, none, none, none, none, none, none]) W.fn_wwithout (room_depth room) hz (BindsTo.of_eq rfl) rfl rfl (by decide +kernel) (by simp) (by simp) (by simp) ?_
  intro env E s₁ hG σ
  have R1 : Room 4 (A.deeper env) := room.deeper
  have hA : (A.deeper env).handled = none := R1.1
  have hsl : sizeLine = 16777216 := rfl
  have hxl := hops.length
  have hovl := ints_len hown
  have hp5 : p + own.length ≤ 5 := Nat.add_le_add (pk2 hk1 hp) hol3
  obtain ⟨n1, f1, kl, kv, hm1, hm2, hm3, hm4⟩ := hm
  obtain ⟨t1, a1, b1, lk1, hq1, hq2, hq3, hq4⟩ := hm4 kind hk0 hk1
  (show wpAny _ _ (execs (_ :: _) _) _ _ _; dsimp only [qn_BLOCK, qn_DROP, qn_ELSE, qn_END, qn_FUNCTION, qn_Func, qn_IF, qn_LOCAL_GET, qn_LOCAL_SET, qn_LOCAL_TEE, qn_LOOP, qn_Module, qn_Piece, qn__name__, qn_law_behind, qn_law_flat, qn_law_is_kept_right, qn_law_items, qn_law_join, qn_law_joined, qn_law_kept, qn_law_next, qn_law_pick, qn_law_run, qn_law_two, qn_wall, qn_ahead, qn_at, qn_body, qn_body_of, qn_codes, qn_deep, qn_due, qn_first, qn_found, qn_func, qn_given, qn_height, qn_here, qn_index, qn_inner, qn_int, qn_is_else, qn_items, qn_join_last, qn_join_locals, qn_k, qn_kept, qn_kind, qn_len, qn_list, qn_local, qn_locals_now, qn_many, qn_module, qn_name, qn_number, qn_one, qn_opened, qn_other, qn_out, qn_own, qn_params, qn_part, qn_parts_of, qn_piece, qn_pieces, qn_pieces_of, qn_place, qn_places, qn_plain, qn_property, qn_put_pieces, qn_range, qn_read, qn_rest, qn_script, qn_second, qn_self, qn_sign, qn_sort, qn_stack, qn_state, qn_sum, qn_tape, qn_thing, qn_things, qn_told, qn_tuple, qn_turn, qn_two, qn_values, qn_way, qn_without_locals, qn_word])
  walk_at "W"
  refine e_bfun1 σ hG W.bv_len (by walk_at "in") ?_
  walk_at "W"
  refine a_own σ O.kin O.M (σ.PG hm1) (by decide +kernel) hm2 rfl ?_
  clear σ; intro s₂ σ
  walk_at "W"
  refine a_own σ O.kin O.F (σ.PG hf) (by decide +kernel) (fA_kind ..) rfl ?_
  clear σ; intro s₃ σ
  refine ix_list (σ.HLg hm3) hk0 (Int.lt_of_le_of_lt hk1 (by decide)) hq1 ?_
  walk_at "W"
  refine k_lenT σ (σ.HT hq3) (sz (pk2 hk1 hq4) rfl) ?_
  clear σ; intro tp s₄ σ
  walk_at "W"
  rw [hq4, ← hp] at σ
  refine d_empty (intKind prog w) σ (big_of W σ) ?_
  clear σ; intro rdd s₅ σ _ hrds
  walk_at "W"
  refine xs_for ?_ (by intro _; with_unfolding_all rfl)
  walk_at "W"
  refine a_own σ O.kin O.F (σ.PG hf) (by decide +kernel) (fA_body ..) rfl ?_
  clear σ; intro s₃ σ
  replace σ := σ.weak (P' := RdD prog w ops 0) .head (fun o q => ⟨[], q, Nat.le_refl _, fun i => by simp [valueAt, rd]⟩)
  refine for_list σ hA bl xs (fun j vs' led' g' => ∃ x1, vs' = [some (.ref mx), some (.ref fx), some (.int p tp), some (.ref rdd), x1, none, none, none, none] ∧ led' = [(rdd, RdD prog w ops j)] ∧ GLe g g')
    ?_ ⟨_, rfl, rfl, .refl⟩ ?_ ?_ (.inl ⟨_, _, rfl⟩)
  · rintro i _ _ g' s' ⟨_, rfl, rfl, le⟩ σ
    exact σ.HLg (hbl.mono le)
  · clear σ
    rintro j v s₂ _ _ g₂ it E₂ TT hN hT hx ⟨x1, rfl, rfl, le⟩ σ
    have fN := fun x1 s₃ g'' h1 σ => hN s₃ _ _ g'' ⟨x1, rfl, rfl, h1⟩ σ
    clear hN
    obtain ⟨q, op, rfl, hop, po, hpt, hpi⟩ := hops.get hx
    replace hpt := hpt.mono le
    have hj : j < ops.length := by
      rcases Nat.lt_or_ge j ops.length with q | q
      · exact q
      · rw [List.getElem?_eq_none q] at hop; cases hop
    cases hcase op (List.mem_of_getElem? hop) with
    | @loc c i c1 c2 i0 im =>
      cases hpi with | cons _ tc hpi =>
      cases hpi with | cons _ ti hpi =>
      cases hpi
      walk_at "W"
      refine xs_if ?_
      walk_at "W"
      by_cases hc : c = 32
      · refine sp_ct ?_ hc
        subst hc
        walk_at "W"
        obtain ⟨o, e, kvs, hd, hl, hv⟩ := σ.get (.tail .head)
        refine st_dict (knd := intKind prog w) (k := i) (Heap.dictOf_iff.mpr ⟨o, e, hd⟩) (intKind_is ..) (sz (Nat.le_trans hl (Nat.le_trans (Nat.le_of_lt hj) hlen)) rfl) fun s' x hd' => ?_
        obtain ⟨o', e', hd'⟩ := Heap.dictOf_iff.mp hd'
        replace σ := σ.mod (P' := RdD prog w ops (j + 1)) (.tail .head) x e' ⟨_, hd', Nat.le_trans (stored_length_le ..) (Nat.succ_le_succ hl), fun k => by
          rw [valueAt_stored, rd_take hop, ← hv]
          by_cases hk : k = i
          · subst hk; simp
          · have : ¬ i = k := fun q => hk q.symm
            simp [hk, this]⟩
        walk_at "W"
        exact fN _ _ _ le σ
      · refine sp_cf ?_ hc
        walk_at "W"
        replace σ := σ.weak (P' := RdD prog w ops (j + 1)) (.tail .head) (fun o ⟨kvs, a, b, d⟩ => ⟨kvs, a, Nat.le_succ_of_le b, fun k => by rw [d, rd_take hop]; simp [hc]⟩)
        exact fN _ _ _ le σ
    | @oth c t hc =>
      cases hpi with | cons _ tc hpi =>
      walk_at "W"
      refine xs_if ?_
      walk_at "W"
      refine sp_cf ?_ (no1 hc (by decide))
      walk_at "W"
      replace σ := σ.weak (P' := RdD prog w ops (j + 1)) (.tail .head) (fun o ⟨kvs, a, b, d⟩ => ⟨kvs, a, Nat.le_succ_of_le b, fun k => by
        rw [d, rd_take hop]
        have : ¬ (c :: t = [32, k]) := by intro q; cases q; exact hc (by decide)
        simp [this]⟩)
      exact fN _ _ _ le σ
  · clear σ
    rintro s₂ _ _ g₂ ⟨x1, rfl, rfl, le⟩ σ
    rw [hxl] at σ
    walk_at "W"
    (refine' xs_swap2 σ ?k1 ?k2 ?k3 ?k4 ?k5 ?k6 ?k7 ?k8 ?_ ?k9; (case k1 => walk_at "in"); (case k2 => walk_at "in"); (case k3 => decide); (case k4 => rfl); (case k5 => intro _ _ q; cases q); (case k6 => intro _ _ q; cases q); (case k7 => decide +kernel); (case k8 => decide +kernel); (case k9 => with_unfolding_all rfl))
    walk_at "W"
    refine d_empty (intKind prog w) σ (big_of W σ) ?_
    clear σ; intro pld s₅ σ _ hpls
    walk_at "W"
    rcases (⟨la, rfl⟩ : ∃ x, x = la) with ⟨ka, rfl⟩
    refine xs_for ?_ (by intro _; with_unfolding_all rfl)
    refine e_type1 σ hG W.bv_range (by walk_at "in") ?_
    walk_at "W"
    refine e_bfun1 σ hG W.bv_len (by walk_at "in") ?_
    walk_at "W"
    refine a_own σ O.kin O.F (σ.PG (hf.mono (by walk_at "gle"))) (by decide +kernel) (fA_locals ..) rfl ?_
    clear σ; intro s₃ σ
    refine k_lenT σ (σ.HT (hol.mono (by walk_at "gle"))) (sz (Nat.le_trans (Nat.le_of_eq hovl) hol3) rfl) ?_
    clear σ; intro tl s₄ σ
    walk_at "W"
    have en : ((p : Int) + (ov.length : Nat)) = ((p + own.length : Nat) : Int) := by rw [hovl]; push_cast; rfl
    rw [en]
    replace σ := σ.weak (P' := PlD prog w ops p 0) (.tail .head) (fun o q => ⟨[], q, Nat.le_refl _, fun i h0 h1 => absurd h1 (Int.not_lt.2 h0)⟩)
    have leG : GLe g gg := le.trans hgg
    refine for_range σ hA (fun idx vs' led' g' => ∃ x4 x7 kv', vs' = [some (.ref mx), some (.ref fx), some (.int p tp), some (.ref rdd), x4, some (.ref pld), some (.ref ka), x7, none] ∧ led' = [(ka, IsL kv'), (pld, PlD prog w ops p idx), (rdd, RdD prog w ops ops.length)] ∧ GLe gg g' ∧ IntsAre kv' (kown ops p own (idx - p)))
      (Int.lt_of_le_of_lt (Int.ofNat_le.2 hp5) (by decide)) (Int.natCast_nonneg _) ⟨_, _, [], rfl, rfl, .refl, by rw [Nat.zero_sub]; exact .nil⟩ ?_ ?_
    · clear σ
      rintro idx tki s₆ _ _ g₆ it E₃ TT hN hT hidx ⟨x4, x7, kv', rfl, rfl, le6, hkv⟩ σ
      have fN := fun x4 x7 kv' s₃ g'' h1 h2 σ => hN s₃ _ _ g'' ⟨x4, x7, kv', rfl, rfl, h1, h2⟩ σ
      clear hN
      rw [Int.toNat_natCast] at hidx
      have hkl := ints_len hkv
      rw [kown_len] at hkl
      have hcl := cnt_le ops p (idx - p)
      walk_at "W"
      refine xs_if ?_
      walk_at "W"
      by_cases hlo : idx < p
      · refine sp_ct ?_ (Int.ofNat_lt.2 hlo)
        walk_at "W"
        obtain ⟨o, e, kvs, hd, hl, hv⟩ := σ.get (.tail (.tail .head))
        refine st_dict (knd := intKind prog w) (k := (idx : Int)) (Heap.dictOf_iff.mpr ⟨o, e, hd⟩) (intKind_is ..) (sz (Nat.le_trans hl (Nat.le_trans (Nat.le_of_lt hidx) hp5)) rfl) fun s' x hd' => ?_
        obtain ⟨o', e', hd'⟩ := Heap.dictOf_iff.mp hd'
        replace σ := σ.mod (P' := PlD prog w ops p (idx + 1)) (.tail (.tail .head)) x e' ⟨_, hd', Nat.le_trans (stored_length_le ..) (Nat.succ_le_succ hl), fun k k0 k1 kr => by
          rw [valueAt_stored]
          by_cases hk : k = idx
          · subst hk; rw [if_pos rfl, ren_lo ops p (Int.ofNat_lt.2 hlo)]; exact ⟨_, rfl⟩
          · rw [if_neg hk]; exact hv k k0 (lt_ne k1 hk) kr⟩
        walk_at "W"
        refine fN _ _ _ _ _ le6 ?_ σ
        rw [(Nat.sub_eq_zero_of_le hlo).trans (Nat.sub_eq_zero_of_le (Nat.le_of_lt hlo)).symm]; exact hkv
      · refine sp_cf ?_ (fun h => hlo (Int.ofNat_lt.1 h))
        obtain ⟨q, rfl⟩ : ∃ q, idx = p + q := ⟨idx - p, (Nat.add_sub_of_le (Nat.le_of_not_lt hlo)).symm⟩
        have eq1 : p + q - p = q := Nat.add_sub_cancel_left ..
        have hqo : q < own.length := Nat.lt_of_add_lt_add_left hidx
        rw [eq1] at hkv hkl hcl
        refine xs_if ?_
        walk_at "W"
        obtain ⟨o, e, kvs, hd, hl, hv⟩ := σ.get (.tail (.tail (.tail .head)))
        refine c_in_d σ (knd := intKind prog w) (k := ((p + q : Nat) : Int)) (Heap.dictOf_iff.mpr ⟨o, e, hd⟩) hrds (intKind_is ..) ?_
        clear σ; intro s₇ σ
        rw [hv, List.take_length]
        have hoq : own[q]? = some (own.getD q 0) := by
          rw [List.getD_eq_getElem?_getD, List.getElem?_eq_getElem hqo]; rfl
        by_cases hr : rd ops ((p + q : Nat) : Int) = true
        · rw [hr]
          walk_at "W"
          refine e_bfun1 σ hG W.bv_len (by walk_at "in") ?_
          walk_at "W"
          have hks : kv'.length ≤ sizeLine := sz (Nat.le_trans (Nat.le_of_eq hkl) (Nat.le_trans hcl (Nat.le_trans (Nat.le_of_lt hqo) hol3))) rfl
          refine k_len σ (σ.HL (.tail .head)) hks ?_
          clear σ; intro tn s₈ σ
          walk_at "W"
          obtain ⟨o, e, kvs2, hd2, hl2, hv2⟩ := σ.get (.tail (.tail .head))
          refine st_dict (knd := intKind prog w) (k := ((p + q : Nat) : Int)) (Heap.dictOf_iff.mpr ⟨o, e, hd2⟩) (intKind_is ..) (sz (Nat.le_trans hl2 (Nat.le_trans (Nat.le_of_lt hidx) hp5)) rfl) fun s' x hd' => ?_
          obtain ⟨o', e', hd'⟩ := Heap.dictOf_iff.mp hd'
          replace σ := σ.mod (P' := PlD prog w ops p (p + q + 1)) (.tail (.tail .head)) x e' ⟨_, hd', Nat.le_trans (stored_length_le ..) (Nat.succ_le_succ hl2), fun k k0 k1 kr => by
            rw [valueAt_stored]
            by_cases hk : k = ((p + q : Nat) : Int)
            · subst hk; rw [if_pos rfl, ren_hi, hkl]; exact ⟨_, rfl⟩
            · rw [if_neg hk]; exact hv2 k k0 (lt_ne k1 hk) kr⟩
          walk_at "W"
          refine m_append ?_
          walk_at "W"
          refine k_app1 (σ.HL (.tail .head)) ?_
          walk_at "W"
          refine a_own σ O.kin O.F (σ.PG (hf.mono (leG.trans le6))) (by decide +kernel) (fA_locals ..) rfl ?_
          clear σ; intro s₉ σ
          walk_at "W"
          have ei := psub p q
          obtain ⟨tq, htq⟩ := ints_at hown hoq
          refine ix_tuple (σ.HT (hol.mono (leG.trans le6))) sb1 (sb2 hidx hp5) (by rw [ei]; exact htq) ?_
          refine k_app2 σ (.tail .head) hks ?_
          clear σ; intro s₅ σ
          walk_at "W"
          refine fN _ _ _ _ _ le6 ?_ σ
          rw [psub1, kown, if_pos hr]
          exact ints_snoc hkv _ _
        · have hr' : rd ops ((p + q : Nat) : Int) = false := by simpa using hr
          rw [hr']
          walk_at "W"
          replace σ := σ.weak (P' := PlD prog w ops p (p + q + 1)) (.tail (.tail .head)) (fun o ⟨kvs2, a, b, d⟩ => ⟨kvs2, a, Nat.le_succ_of_le b, fun k k0 k1 kr => by
            by_cases hk : k = ((p + q : Nat) : Int)
            · subst hk
              rcases kr with kr | kr
              · exact absurd (Int.ofNat_lt.1 kr) (Nat.not_lt.2 (Nat.le_add_right p q))
              · exact absurd kr hr
            · exact d k k0 (lt_ne k1 hk) kr⟩)
          refine fN _ _ _ _ _ le6 ?_ σ
          rw [psub1, kown, if_neg hr, List.append_nil]
          exact hkv
    · clear σ
      rintro s₆ _ _ g₆ ⟨x4, x7, kv', rfl, rfl, le6, hkv⟩ σ
      rw [Int.toNat_natCast] at hkv σ
      rw [show p + own.length - p = own.length from Nat.add_sub_cancel_left ..] at hkv
      have leG6 : GLe g g₆ := leG.trans le6
      walk_at "W"
      rcases (⟨la, rfl⟩ : ∃ x, x = la) with ⟨ba, rfl⟩
      refine xs_for ?_ (by intro _; with_unfolding_all rfl)
      walk_at "W"
      refine a_own σ O.kin O.F (σ.PG (hf.mono leG6)) (by decide +kernel) (fA_body ..) rfl ?_
      clear σ; intro s₃ σ
      refine for_list σ hA bl xs (fun j vs' led' g' => ∃ x4 ys, vs' = [some (.ref mx), some (.ref fx), some (.int p tp), some (.ref rdd), x4, some (.ref pld), some (.ref ka), x7, some (.ref ba)] ∧ led' = [(ba, IsL ys), (ka, IsL kv'), (pld, PlD prog w ops p (p + own.length)), (rdd, RdD prog w ops ops.length)] ∧ GLe g₆ g' ∧ OpsV g' ys (keptOps ops p (ops.take j)))
        ?_ ⟨_, [], rfl, rfl, .refl, .nil⟩ ?_ ?_ (.inl ⟨_, _, rfl⟩)
      · rintro i _ _ g' s' ⟨_, _, rfl, rfl, le, _⟩ σ
        exact σ.HLg (hbl.mono (leG6.trans le))
      · clear σ
        rintro j v s₂ _ _ g₇ it E₂ TT hN hT hx ⟨x4, ys, rfl, rfl, le7, hys⟩ σ
        obtain ⟨q, op, rfl, hop, po, hpt, hpi⟩ := hops.get hx
        replace hpt := hpt.mono (leG6.trans le7)
        have hpo : OpG g₇ q op := ⟨po, hpt, hpi⟩
        have hyl := hys.length
        have hkl := keptOps_len ops p (ops.take j)
        have hjl : (ops.take j).length ≤ ops.length := by rw [List.length_take]; exact Nat.min_le_right _ _
        have hT : ys.length ≤ sizeLine := sz (Nat.le_trans (Nat.le_of_eq hyl) (Nat.le_trans hkl (Nat.le_trans hjl hlen))) rfl
        rw [keptOps_take hop] at hN
        have fN := fun x4 ys s₃ g'' h1 h2 σ => hN s₃ _ _ g'' ⟨x4, ys, rfl, rfl, h1, h2⟩ σ
        clear hN
        cases hcase op (List.mem_of_getElem? hop) with
        | @loc c i c1 c2 i0 im =>
          cases hpi with | cons _ tc hpi =>
          cases hpi with | cons _ ti hpi =>
          cases hpi
          walk_at "W"
          refine xs_if ?_
          walk_at "W"
          by_cases h32 : c = 32
          · subst h32
            refine sp_ct ?_ rfl
            have hr := rd_of hop
            rw [keptOp_get (by decide) (by decide) hr] at fN
            walk_at "W"
            refine m_append ?_
            walk_at "W"
            refine k_app1 (σ.HL (.tail .head)) ?_
            walk_at "W"
            obtain ⟨o, e, kvs, hd, hl, hv⟩ := σ.get (.tail (.tail (.tail .head)))
            obtain ⟨tv, hvi⟩ := hv i i0 im (.inr hr)
            refine ix_dict σ (knd := intKind prog w) (k := i) (Heap.dictOf_iff.mpr ⟨o, e, hd⟩) (intKind_is ..) hvi ?_
            clear σ; intro s₈ σ
            walk_at "W"
            refine k_app2 σ (.tail .head) hT ?_
            clear σ; intro s₅ σ
            walk_at "W"
            exact fN _ _ _ _ (le7.trans hgg) ((hys.mono hgg).snoc ⟨_, htg, .cons _ _ (.cons _ _ .nil)⟩) σ
          refine sp_cf ?_ h32
          refine xs_if ?_
          walk_at "W"
          by_cases h33 : c = 33
          · subst h33
            refine sp_ct ?_ rfl
            walk_at "W"
            obtain ⟨o, e, kvs, hd, hl, hv⟩ := σ.get (.tail (.tail (.tail (.tail .head))))
            refine c_nin_d σ (knd := intKind prog w) (k := i) (Heap.dictOf_iff.mpr ⟨o, e, hd⟩) hrds (intKind_is ..) ?_
            clear σ; intro s₇ σ
            rw [hv, List.take_length]
            by_cases hr : rd ops i = true
            · rw [hr]; rw [keptOp_get (by decide) (by decide) hr] at fN
              walk_at "W"
              refine xs_if ?_
              walk_at "W"
              refine c_in_ints (σ.HT htg) (.cons 33 _ (.cons 34 _ .nil)) ?_
              rw [show (([33, 34] : List Int).any (· == 33)) = true from rfl]
              have hgg1 := hgg
              replace hpt := hpt.mono hgg
              walk_at "W"
              obtain ⟨o, e, kvs, hd, hl, hv⟩ := σ.get (.tail (.tail (.tail (.tail .head))))
              refine c_in_d σ (knd := intKind prog w) (k := i) (Heap.dictOf_iff.mpr ⟨o, e, hd⟩) hrds (intKind_is ..) ?_
              clear σ; intro s₇ σ
              rw [hv, List.take_length]
              rw [hr]
              walk_at "W"
              refine m_append ?_
              walk_at "W"
              refine k_app1 (σ.HL (.tail .head)) ?_
              walk_at "W"
              obtain ⟨o, e, kvs, hd, hl, hv⟩ := σ.get (.tail (.tail (.tail .head)))
              obtain ⟨tv, hvi⟩ := hv i i0 im (.inr hr)
              refine ix_dict σ (knd := intKind prog w) (k := i) (Heap.dictOf_iff.mpr ⟨o, e, hd⟩) (intKind_is ..) hvi ?_
              clear σ; intro s₈ σ
              walk_at "W"
              refine k_app2 σ (.tail .head) hT ?_
              clear σ; intro s₅ σ
              walk_at "W"
              exact fN _ _ _ _ (le7.trans (hgg1.trans hgg)) ((hys.mono (hgg1.trans hgg)).snoc ⟨_, htg, .cons _ _ (.cons _ _ .nil)⟩) σ
            · have hr' : rd ops i = false := by simpa using hr
              rw [hr']; rw [keptOp_set hr'] at fN
              walk_at "W"
              refine m_append ?_
              walk_at "W"
              refine k_app1 (σ.HL (.tail .head)) ?_
              walk_at "W"
              refine k_app2 σ (.tail .head) hT ?_
              clear σ; intro s₅ σ
              walk_at "W"
              exact fN _ _ _ _ (le7.trans hgg) ((hys.mono hgg).snoc ⟨_, htg, .cons _ _ .nil⟩) σ
          · refine sp_cf ?_ h33
            have h34 : c = 34 := by lia
            subst h34
            walk_at "W"
            refine xs_if ?_
            walk_at "W"
            refine c_in_ints (σ.HT htg) (.cons 33 _ (.cons 34 _ .nil)) ?_
            rw [show (([33, 34] : List Int).any (· == 34)) = true from rfl]
            have hgg1 := hgg
            replace hpt := hpt.mono hgg
            walk_at "W"
            obtain ⟨o, e, kvs, hd, hl, hv⟩ := σ.get (.tail (.tail (.tail (.tail .head))))
            refine c_in_d σ (knd := intKind prog w) (k := i) (Heap.dictOf_iff.mpr ⟨o, e, hd⟩) hrds (intKind_is ..) ?_
            clear σ; intro s₇ σ
            rw [hv, List.take_length]
            by_cases hr : rd ops i = true
            · rw [hr]; rw [keptOp_get (by decide) (by decide) hr] at fN
              walk_at "W"
              refine m_append ?_
              walk_at "W"
              refine k_app1 (σ.HL (.tail .head)) ?_
              walk_at "W"
              obtain ⟨o, e, kvs, hd, hl, hv⟩ := σ.get (.tail (.tail (.tail .head)))
              obtain ⟨tv, hvi⟩ := hv i i0 im (.inr hr)
              refine ix_dict σ (knd := intKind prog w) (k := i) (Heap.dictOf_iff.mpr ⟨o, e, hd⟩) (intKind_is ..) hvi ?_
              clear σ; intro s₈ σ
              walk_at "W"
              refine k_app2 σ (.tail .head) hT ?_
              clear σ; intro s₅ σ
              walk_at "W"
              exact fN _ _ _ _ (le7.trans (hgg1.trans hgg)) ((hys.mono (hgg1.trans hgg)).snoc ⟨_, htg, .cons _ _ (.cons _ _ .nil)⟩) σ
            · have hr' : rd ops i = false := by simpa using hr
              rw [hr']; rw [keptOp_tee hr', List.append_nil] at fN
              walk_at "W"
              refine xs_if ?_
              walk_at "W"
              exact fN _ _ _ _ (le7.trans hgg) (hys.mono hgg) σ
        | @oth c t hc =>
          cases hpi with | cons _ tc hpi =>
          walk_at "W"
          refine xs_if ?_
          walk_at "W"
          refine sp_cf ?_ (no1 hc (by decide))
          refine xs_if ?_
          walk_at "W"
          refine sp_cf ?_ (no1 hc (by decide))
          walk_at "W"
          refine xs_if ?_
          walk_at "W"
          refine c_in_ints (σ.HT htg) (.cons 33 _ (.cons 34 _ .nil)) ?_
          have hin : (([33, 34] : List Int).any (· == c)) = false := by simp; exact ⟨fun e => no1 hc (by decide) e.symm, fun e => no1 hc (by decide) e.symm⟩
          rw [hin]
          replace hpt := hpt.mono hgg
          walk_at "W"
          refine xs_if ?_
          walk_at "W"
          refine sp_cf ?_ (no1 hc (by decide))
          walk_at "W"
          refine m_append ?_
          walk_at "W"
          refine k_app1 (σ.HL (.tail .head)) ?_
          walk_at "W"
          refine k_app2 σ (.tail .head) hT ?_
          clear σ; intro s₅ σ
          walk_at "W"
          rw [keptOp_oth hc] at fN
          exact fN _ _ _ _ (le7.trans hgg) ((hys.mono hgg).snoc (hpo.mono hgg)) σ
      · clear σ
        rintro s₇ _ _ g₇ ⟨x4, ys, rfl, rfl, le7, hys⟩ σ
        rw [hxl, List.take_length] at hys
        have hkl := ints_len hkv
        rw [kown_len] at hkl
        have hcl := cnt_le ops p own.length
        obtain ⟨g₈, le8, hlg8, σ⟩ := σ.frzL (.refl _) hla
        walk_at "W"
        refine e_make σ hG O.kin O.F W.gv_Func (by walk_at "in") ?_
        walk_at "W"
        have leG8 : GLe g g₈ := leG6.trans (le7.trans le8)
        refine a_own σ O.kin O.F (σ.PG (hf.mono leG8)) (by decide +kernel) (fA_kind ..) rfl ?_
        clear σ; intro s₉ σ
        walk_at "W"
        refine e_type1 σ hG W.bv_tuple (by walk_at "in") ?_
        walk_at "W"
        refine k_tupleL σ (σ.HL .head).isList (sz (Nat.le_trans (Nat.le_of_eq hkl) (Nat.le_trans hcl hol3)) rfl) ?_
        clear σ; intro kt g₉ s₁₀ σ le9 hkt
        walk_at "W"
        refine ⟨σ.hbs, k_func W O σ R1.le ?_⟩
        clear σ; intro x g₁₀ s₁₁ σ le10 hpg
        walk_at "W"
        exact cont _ _ _ _ _ _ _ σ.ext σ.grownOf hpg (hkt.mono le10) hkv (hlg8.mono (le9.trans le10)) (hys.mono (le8.trans (le9.trans le10)))
end
section
variable {prog : Program} {w : World} {hb : Heap} {K : Frag}
theorem c_in_intsL {A : Around} {E : Value → Shared → Prop} {s : Shared} {a : Addr} {l : List Value} {is : List Int} {i : Int} {t : Tok} {Q : Value → Shared → Prop} (hl : HL s a l) (hi : IntsAre l is) (h : Q (.bool (is.any (· == i))) s) :
    wpAny (model prog w) A (compareOp .In (.int i t) (.ref a)) Q E s := in_list_ints hl.isList hi h
theorem swaps_comp {env : Env} {ns : List Str} (he : EnvOk env ns) {t : Str} (ht : t ∈ ns) {elt : Expr} {gens : List Comprehension} {scope : Scope} {vp pos : Pos} {line : Nat} (hl : (pos.line == vp.line) = true) (hn : (scope.names.any fun (n, k) => n == t && (k == .local || k == .cell)) = false) :
    swapsWith (.ListComp elt gens scope vp) (some (.Name t pos)) line env = pure true := by
  have hbk : env.blockKind = .function := by unfold Env.blockKind; rw [he.kind]; rfl
  unfold swapsWith
  have e : (env.blockKind == .function && env.kindOf t == some .local && pos.line == (Expr.ListComp elt gens scope vp).pos.line && !(scope.names.any fun (n, k) => n == t && (k == .local || k == .cell))) = true := by
    rw [hbk, he.names t ht, hn]
    show (true && true && (pos.line == vp.line) && true) = true
    rw [hl]; rfl
  show pure _ = pure true
  rw [e]
theorem ints_at' {l : List Value} {is : List Int} (h : IntsAre l is) {j : Nat} {v : Value} (e : l[j]? = some v) : ∃ k t, v = .int k t ∧ is[j]? = some k := by
  have hj : j < l.length := by
    rcases Nat.lt_or_ge j l.length with q | q
    · exact q
    · rw [List.getElem?_eq_none q] at e; cases e
  obtain ⟨h1, t, e1⟩ := ints_get h hj
  rw [List.getElem?_eq_getElem hj, e1] at e
  cases e
  exact ⟨_, t, rfl, List.getElem?_eq_getElem h1⟩
theorem kept_c (W : Wld hb) {A : Around} {g : FH} {s : Shared} {R : Result → Shared → Prop} (room : Room 5 A) (hz : Frz hb g s) {ol bl : Addr} {p : Nat} {tp : Tok} {ov xs : List Value} {own : List Int} {ops : List (List Int)}
    (hp3 : p ≤ 3) (hol : TG g ol ov) (hown : IntsAre ov own) (hol3 : own.length ≤ 3) (hbl : LG g bl xs) (hops : OpsV g xs ops)
    (hcase : ∀ op ∈ ops, OpCase ((p + own.length : Nat) : Int) op) (hlen : ops.length ≤ 6000)
    (cont : ∀ s' g' t kl kv bl' ys, Ext [] s s' → Grown g s g' s' → TG g' t [.ref kl, .ref bl'] → TG g' kl kv → IntsAre kv (keptOwn ops p own) → LG g' bl' ys → OpsV g' ys (keptOps ops p ops) → R (.ok (.ret (.ref t))) s') :
    codeAny (model prog w) A (.call (.ref 300) ⟨[.ref bl, .int p tp, .ref ol], []⟩) R s := by
  refine startC (led := []) [] [(n_body, .ref bl), (n_params, .int p tp), (n_own, .ref ol)] [] [n_read, n_out, n_ahead] [n_range, n_len, n_tuple] [(n_body, some (.ref bl)), (n_params, some (.int p tp)), (n_own, some (.ref ol)), (n_plain, none)] [n_body, n_params, n_own] [n_body, n_params, n_own, n_plain]
    (ns := [n_read, n_out, n_ahead]) (vs := [none, none, none]) W.fn_wkept (room_depth room) hz rfl (by with_unfolding_all rfl) (by with_unfolding_all rfl) rfl rfl rfl rfl (by decide +kernel) (by simp) (by simp) (by simp) ?_
  intro env E s₁ cs hG hcs σ
  cases hcs with | @cons _ _ cb _ _ ecb hcs =>
  cases hcs with | @cons _ _ cp _ _ ecp hcs =>
  cases hcs with | @cons _ _ co _ _ eco hcs =>
  cases hcs with | @cons _ _ cx _ _ ecx hcs =>
  cases hcs
  simp only [cellLed, List.nil_append, List.cons_append, List.append_nil] at σ
  have R1 : Room 4 (A.deeper env) := room.deeper
  have hA : (A.deeper env).handled = none := R1.1
  have hsl : sizeLine = 16777216 := rfl
  have hxl := hops.length
  have hovl := ints_len hown
  have hkind := σ.eok.kind
  have hp6 : p + own.length ≤ 6 := Nat.add_le_add hp3 hol3
  (show wpAny _ _ (execs (_ :: _) _) _ _ _; dsimp only [qn_BLOCK, qn_DROP, qn_ELSE, qn_END, qn_FUNCTION, qn_Func, qn_IF, qn_LOCAL_GET, qn_LOCAL_SET, qn_LOCAL_TEE, qn_LOOP, qn_Module, qn_Piece, qn__name__, qn_law_behind, qn_law_flat, qn_law_is_kept_right, qn_law_items, qn_law_join, qn_law_joined, qn_law_kept, qn_law_next, qn_law_pick, qn_law_run, qn_law_two, qn_wall, qn_ahead, qn_at, qn_body, qn_body_of, qn_codes, qn_deep, qn_due, qn_first, qn_found, qn_func, qn_given, qn_height, qn_here, qn_index, qn_inner, qn_int, qn_is_else, qn_items, qn_join_last, qn_join_locals, qn_k, qn_kept, qn_kind, qn_len, qn_list, qn_local, qn_locals_now, qn_many, qn_module, qn_name, qn_number, qn_one, qn_opened, qn_other, qn_out, qn_own, qn_params, qn_part, qn_parts_of, qn_piece, qn_pieces, qn_pieces_of, qn_place, qn_places, qn_plain, qn_property, qn_put_pieces, qn_range, qn_read, qn_rest, qn_script, qn_second, qn_self, qn_sign, qn_sort, qn_stack, qn_state, qn_sum, qn_tape, qn_thing, qn_things, qn_told, qn_tuple, qn_turn, qn_two, qn_values, qn_way, qn_without_locals, qn_word])
  refine' xs_comp σ ?a1 rfl ?a2 ?a3 ?a4 ?a5 ?_ ?a7 ?a6
  case a1 => decide +kernel
  case a2 => decide +kernel
  case a3 => decide +kernel
  case a4 => decide +kernel
  case a5 => exact hf_of [n_body] (by decide +kernel) ⟨⟨_, ecb⟩, trivial⟩
  case a6 => intro _; with_unfolding_all rfl
  case a7 => exact swaps_comp σ.eok (by walk_at "in") (by with_unfolding_all rfl) (by decide +kernel)
  refine e_type1 σ hG W.bv_range (by walk_at "in") ?_
  walk_at "W"
  refine e_bfun1 σ hG W.bv_len (by walk_at "in") ?_
  walk_at "W"
  refine k_lenT σ (σ.HT hol) (sz (Nat.le_trans (Nat.le_of_eq hovl) hol3) rfl) ?_
  clear σ; intro tl s₄ σ
  walk_at "W"
  have en : ((p : Int) + (ov.length : Nat)) = ((p + own.length : Nat) : Int) := by rw [hovl]; push_cast; rfl
  rw [en]
  refine iter_of_range σ (Int.lt_of_le_of_lt (Int.ofNat_le.2 hp6) (by decide)) (Int.natCast_nonneg _) ?_
  clear σ; intro it s₅ σ hit
  rw [Int.toNat_natCast] at σ
  refine ⟨it, _, _, _, _, _, _, _, fun j acc _ => IntsAre acc (rdL ops j), rfl, iter_range hA, σ, hit, sz hp6 rfl, fun _ _ _ _ => trivial, .nil, ?_, ?_⟩
  · clear σ
    rintro j acc g' v D C s' E' hj ⟨t, rfl⟩ hJ hle _ σ
    have ecb' := ec_in σ hkind ecb (by decide +kernel)
    refine ifs_one ?_
    walk_at "W"
    refine c_in_ops (op := [32, (j : Int)]) σ.gin (σ.HLg (hbl.mono (hle.trans hgg))) (hops.mono (hle.trans hgg)) ⟨_, htg, .cons _ _ (.cons _ _ .nil)⟩ R1.le ?_
    show wpAny _ _ (truthy (.bool (rd ops j))) _ _ _
    refine tr_bool ?_
    by_cases hr : rd ops j = true
    · rw [hr, if_pos rfl]
      walk_at "W"
      refine ⟨_, hgg, ?_, σ⟩
      show IntsAre _ (rdL ops (j + 1))
      rw [rdL, if_pos hr]; exact ints_snoc hJ _ _
    · have hr' : rd ops j = false := by simpa using hr
      rw [hr', if_neg (by decide)]
      refine ⟨_, hgg, ?_, σ⟩
      show IntsAre _ (rdL ops (j + 1))
      rw [rdL, if_neg hr, List.append_nil]; exact hJ
  clear σ
  intro rv g₂ ra hrv hle hal hra
  refine ⟨_, .head, fun s₆ σ => ?_⟩
  obtain ⟨g₃, le3, hlr, σ⟩ := σ.frzL (.refl _) hra
  walk_at "W"
  rcases (⟨la, rfl⟩ : ∃ x, x = la) with ⟨oa, rfl⟩
  have hrv' : IntsAre rv (rdL ops (p + own.length)) := hrv
  have hrl := rdL_len ops (p + own.length)
  have hrvl := ints_len hrv'
  have hrs : rv.length ≤ 6 := Nat.le_trans (Nat.le_of_eq hrvl) (Nat.le_trans hrl hp6)
  have leG : GLe g g₃ := hle.trans le3
  refine xs_for ?_ (by intro _; with_unfolding_all rfl)
  walk_at "W"
  refine for_list σ hA bl xs (fun j vs' led' g' => ∃ x3 xc ys, vs' = [some (.ref ra), some (.ref oa), x3] ∧ led' = [(oa, IsL ys), (cb, IsC (some (.ref bl))), (cp, IsC (some (.int p tp))), (co, IsC (some (.ref ol))), (cx, IsC xc)] ∧ GLe g₃ g' ∧ OpsV g' ys (keptOps ops p (ops.take j)))
    ?_ ⟨_, _, [], rfl, rfl, .refl, .nil⟩ ?_ ?_ (.inl ⟨_, _, rfl⟩)
  · rintro i _ _ g' s' ⟨_, _, _, rfl, rfl, le, _⟩ σ
    exact σ.HLg (hbl.mono (leG.trans le))
  · clear σ
    rintro j v s₂ _ _ g₇ it2 E₂ TT hN hT hx ⟨x3, xc, ys, rfl, rfl, le7, hys⟩ σ
    obtain ⟨q, op, rfl, hop, po, hpt, hpi⟩ := hops.get hx
    have leG7 : GLe g g₇ := leG.trans le7
    replace hpt := hpt.mono leG7
    have hlr7 := hlr.mono le7
    have hpo : OpG g₇ q op := ⟨po, hpt, hpi⟩
    have hyl := hys.length
    have hkl := keptOps_len ops p (ops.take j)
    have hjl : (ops.take j).length ≤ ops.length := by rw [List.length_take]; exact Nat.min_le_right _ _
    have hT : ys.length ≤ sizeLine := sz (Nat.le_trans (Nat.le_of_eq hyl) (Nat.le_trans hkl (Nat.le_trans hjl hlen))) rfl
    rw [keptOps_take hop] at hN
    have fN := fun x3 xc ys s₃ g'' h1 h2 σ => hN s₃ _ _ g'' ⟨x3, xc, ys, rfl, rfl, h1, h2⟩ σ
    clear hN
    cases hcase op (List.mem_of_getElem? hop) with
    | @loc c i c1 c2 i0 im =>
      cases hpi with | cons _ tc hpi =>
      cases hpi with | cons _ ti hpi =>
      cases hpi
      walk_at "W"
      refine xs_if ?_
      walk_at "W"
      refine sp_ct ?_ c1
      walk_at "W"
      refine sp_ct ?_ c2
      refine xs_if ?_
      walk_at "W"
      refine c_in_intsL (σ.HLg hlr7) hrv' ?_
      rw [rdL_any i0 im]
      by_cases hr : rd ops i = true
      · rw [hr]; rw [keptOp_get c1 c2 hr] at fN
        walk_at "W"
        refine e_bfun1 σ hG W.bv_len (by walk_at "in") ?_
        refine' e_comp σ ?a1 rfl ?a2 ?a3 ?a4 ?a5 ?_ ?a6
        case a1 => decide +kernel
        case a2 => decide +kernel
        case a3 => decide +kernel
        case a4 => decide +kernel
        case a5 => exact hf_of [n_params, n_plain] (by decide +kernel) ⟨⟨_, ecp⟩, ⟨_, ecx⟩, trivial⟩
        case a6 => intro _; with_unfolding_all rfl
        walk_at "W"
        refine iter_of_list σ (σ.HLg hlr7) ?_
        clear σ; intro it3 s₈ σ hit3
        refine ⟨it3, _, _, _, _, _, _, _, fun j acc _ => IntsAre acc (((rdL ops (p + own.length)).take j).filter (midB p i)), rfl, iter_list (xs := rv) hA, σ, hit3, sz hrs rfl, ?_, .nil, ?_, ?_⟩
        · clear σ
          rintro g' s' le ⟨_, _, _, _, σ⟩
          exact σ.HLg (hlr7.mono le)
        · clear σ
          intro j' acc g' v D C s' E' hk hv hJ hle _ σ
          obtain ⟨k, tk, rfl, hkx⟩ := ints_at' hrv' hv
          have ecp' := ec_in σ hkind ecp (by decide +kernel)
          have ecx' := ec_in σ hkind ecx (by decide +kernel)
          replace hpt := hpt.mono hle
          have hJ' : IntsAre acc (((rdL ops (p + own.length)).take j').filter (midB p i)) := hJ
          refine ifs_one ?_
          walk_at "W"
          by_cases m1 : (p : Int) ≤ k
          · refine sp_ct ?_ m1
            walk_at "W"
            by_cases m2 : k < i
            · dsimp only; rw [if_pos (decide_eq_true m2)]
              walk_at "W"
              refine ⟨_, .refl, ?_, σ⟩
              show IntsAre _ (((rdL ops (p + own.length)).take (j' + 1)).filter (midB p i))
              rw [filter_take _ hkx, if_pos (by unfold midB; rw [decide_eq_true m1, decide_eq_true m2]; rfl)]
              exact ints_snoc hJ' _ _
            · dsimp only; rw [if_neg (by simpa using m2)]
              refine ⟨_, .refl, ?_, σ⟩
              show IntsAre _ (((rdL ops (p + own.length)).take (j' + 1)).filter (midB p i))
              rw [filter_take _ hkx, if_neg (by unfold midB; rw [decide_eq_false m2, Bool.and_false]; decide), List.append_nil]
              exact hJ'
          · refine sp_cf ?_ m1
            dsimp only; rw [if_neg (by decide)]
            refine ⟨_, .refl, ?_, σ⟩
            show IntsAre _ (((rdL ops (p + own.length)).take (j' + 1)).filter (midB p i))
            rw [filter_take _ hkx, if_neg (by unfold midB; rw [decide_eq_false m1, Bool.false_and]; decide), List.append_nil]
            exact hJ'
        clear σ
        intro acc g₈ D hJ le8 hal8 hD s₉ σ
        have hJ' : IntsAre acc (((rdL ops (p + own.length)).take rv.length).filter (midB p i)) := hJ
        rw [hrvl, List.take_length] at hJ'
        have hacl := ints_len hJ'
        refine k_len σ (σ.HL .head) (sz (Nat.le_trans hal8 hrs) rfl) ?_
        clear σ; intro tn s₁₀ σ
        replace σ := σ.drop (List.sublist_cons_self ..)
        replace hpt := hpt.mono le8
        walk_at "W"
        refine m_append ?_
        walk_at "W"
        refine k_app1 (σ.HL (.tail .head)) ?_
        walk_at "W"
        by_cases hlo : i < p
        · refine sp_ct ?_ hlo
          walk_at "W"
          refine k_app2 σ (.tail .head) hT ?_
          clear σ; intro s₅ σ
          walk_at "W"
          exact fN _ _ _ _ _ (le7.trans (le8.trans hgg)) ((hys.mono (le8.trans hgg)).snoc ⟨_, htg, .cons _ _ (by rw [ren_lo ops p hlo]; exact .cons _ _ .nil)⟩) σ
        · refine sp_cf ?_ hlo
          obtain ⟨q1, rfl⟩ := hi_of hlo
          have hmid := rdL_mid ops p q1 (own.length - q1)
          rw [pqn im] at hmid
          walk_at "W"
          refine k_app2 σ (.tail .head) hT ?_
          clear σ; intro s₅ σ
          walk_at "W"
          exact fN _ _ _ _ _ (le7.trans (le8.trans hgg)) ((hys.mono (le8.trans hgg)).snoc ⟨_, htg, .cons _ _ (by rw [ren_hi, ← hmid, ← hacl]; exact .cons _ _ .nil)⟩) σ
      · have hr' : rd ops i = false := by simpa using hr
        rw [hr']
        walk_at "W"
        refine xs_if ?_
        walk_at "W"
        by_cases h33 : c = 33
        · subst h33
          refine sp_ct ?_ rfl
          rw [keptOp_set hr'] at fN
          walk_at "W"
          refine m_append ?_
          walk_at "W"
          refine k_app1 (σ.HL (.tail .head)) ?_
          walk_at "W"
          refine k_app2 σ (.tail .head) hT ?_
          clear σ; intro s₅ σ
          walk_at "W"
          exact fN _ _ _ _ _ (le7.trans hgg) ((hys.mono hgg).snoc ⟨_, htg, .cons _ _ .nil⟩) σ
        · refine sp_cf ?_ h33
          have h34 : c = 34 := by
            have : c ≠ 32 := by rintro rfl; exact hr (rd_of hop)
            lia
          subst h34
          rw [keptOp_tee hr', List.append_nil] at fN
          walk_at "W"
          exact fN _ _ _ _ _ le7 hys σ
    | @oth c t hc =>
      cases hpi with | cons _ tc hpi =>
      rw [keptOp_oth hc] at fN
      walk_at "W"
      refine xs_if ?_
      walk_at "W"
      by_cases h1 : 32 ≤ c
      · refine sp_ct ?_ h1
        walk_at "W"
        refine sp_cf ?_ (fun h2 => hc ⟨h1, h2⟩)
        walk_at "W"
        refine m_append ?_
        walk_at "W"
        refine k_app1 (σ.HL (.tail .head)) ?_
        walk_at "W"
        refine k_app2 σ (.tail .head) hT ?_
        clear σ; intro s₅ σ
        walk_at "W"
        exact fN _ _ _ _ _ le7 (hys.snoc hpo) σ
      · refine sp_cf ?_ h1
        walk_at "W"
        refine m_append ?_
        walk_at "W"
        refine k_app1 (σ.HL (.tail .head)) ?_
        walk_at "W"
        refine k_app2 σ (.tail .head) hT ?_
        clear σ; intro s₅ σ
        walk_at "W"
        exact fN _ _ _ _ _ le7 (hys.snoc hpo) σ
  · clear σ
    rintro s₇ _ _ g₇ ⟨x3, xc, ys, rfl, rfl, le7, hys⟩ σ
    rw [hxl, List.take_length] at hys
    have leG7 : GLe g g₇ := leG.trans le7
    obtain ⟨g₈, le8, hlg8, σ⟩ := σ.frzL (.refl _) hla
    have hlr7 := hlr.mono (le7.trans le8)
    walk_at "W"
    refine e_type1 σ hG W.bv_tuple (by walk_at "in") ?_
    refine' e_comp σ ?a1 rfl ?a2 ?a3 ?a4 ?a5 ?_ ?a6
    case a1 => decide +kernel
    case a2 => decide +kernel
    case a3 => decide +kernel
    case a4 => decide +kernel
    case a5 => exact hf_of [n_params, n_own] (by decide +kernel) ⟨⟨_, ecp⟩, ⟨_, eco⟩, trivial⟩
    case a6 => intro _; with_unfolding_all rfl
    walk_at "W"
    refine iter_of_list σ (σ.HLg hlr7) ?_
    clear σ; intro it3 s₉ σ hit3
    refine ⟨it3, _, _, _, _, _, _, _, fun j acc _ => IntsAre acc ((((rdL ops (p + own.length)).take j).filter (hiB p)).map fun k : Int => own.getD (k - (p : Int)).toNat 0), rfl, iter_list (xs := rv) hA, σ, hit3, sz hrs rfl, ?_, .nil, ?_, ?_⟩
    · clear σ
      rintro g' s' le ⟨_, _, _, _, σ⟩
      exact σ.HLg (hlr7.mono le)
    · clear σ
      intro j' acc g' v D C s' E' hk hv hJ hle _ σ
      obtain ⟨k, tk, rfl, hkx⟩ := ints_at' hrv' hv
      have ecp' := ec_in σ hkind ecp (by decide +kernel)
      have eco' := ec_in σ hkind eco (by decide +kernel)
      have hkm := rdL_mem (List.mem_of_getElem? hkx)
      have hJ' : IntsAre acc ((((rdL ops (p + own.length)).take j').filter (hiB p)).map fun k : Int => own.getD (k - (p : Int)).toNat 0) := hJ
      refine ifs_one ?_
      walk_at "W"
      by_cases m1 : (p : Int) ≤ k
      · dsimp only; rw [if_pos (decide_eq_true m1)]
        walk_at "W"
        have hoq : own[(k - (p : Int)).toNat]? = some (own.getD (k - (p : Int)).toNat 0) := by
          rw [List.getD_eq_getElem?_getD, List.getElem?_eq_getElem (kp1 hkm.2.1 m1)]; rfl
        obtain ⟨tq, htq⟩ := ints_at hown hoq
        refine ix_tuple (σ.HT (hol.mono (leG7.trans (le8.trans hle)))) (Int.sub_nonneg_of_le m1) (kp2 hkm.2.1 hp6) htq ?_
        refine ⟨_, .refl, ?_, σ⟩
        show IntsAre _ ((((rdL ops (p + own.length)).take (j' + 1)).filter (hiB p)).map fun k : Int => own.getD (k - (p : Int)).toNat 0)
        rw [filter_take _ hkx, if_pos (by unfold hiB; rw [decide_eq_true m1]), List.map_append]
        exact ints_snoc hJ' _ _
      · dsimp only; rw [if_neg (by simpa using m1)]
        refine ⟨_, .refl, ?_, σ⟩
        show IntsAre _ ((((rdL ops (p + own.length)).take (j' + 1)).filter (hiB p)).map fun k : Int => own.getD (k - (p : Int)).toNat 0)
        rw [filter_take _ hkx, if_neg (by unfold hiB; rw [decide_eq_false m1]; decide), List.append_nil]
        exact hJ'
    clear σ
    intro acc g₉ D hJ le9 hal9 hD s₁₀ σ
    have hJ' : IntsAre acc ((((rdL ops (p + own.length)).take rv.length).filter (hiB p)).map fun k : Int => own.getD (k - (p : Int)).toNat 0) := hJ
    rw [hrvl, List.take_length, rdL_hi] at hJ'
    have hacl := ints_len hJ'
    rw [kown_len] at hacl
    have hcl := cnt_le ops p own.length
    refine k_tupleL σ (σ.HL .head).isList (sz (Nat.le_trans (Nat.le_of_eq hacl) (Nat.le_trans hcl hol3)) rfl) ?_
    clear σ; intro kt g₁₀ s₁₁ σ le10 hkt
    walk_at "W"
    exact cont _ _ _ _ _ _ _ σ.ext σ.grownOf htg (hkt.mono hgg) hJ' (hlg8.mono (le9.trans (le10.trans hgg))) (hys.mono (le8.trans (le9.trans (le10.trans hgg))))
end
theorem S.modT {hb : Heap} {s0 : Shared} {mods : List Addr} {g0 g : FH} {env : Env} {ns : List Str} {vs : List (Option Value)} {led led' : Led} {s s' : Shared} (σ : S hb s0 mods g0 env ns vs led g s) {a : Addr} {P : Obj → Prop} (u : Upd led a P (fun _ => True) led') (x : Ext [a] s s') : S hb s0 mods g0 env ns vs led' g s' := by
  obtain ⟨o, e, _⟩ := σ.get u.toMem
  have : ∃ o', s'.heap.get? a = some o' := by
    rcases x.keep a o e with h | h
    · exact Option.ne_none_iff_exists'.mp h.2
    · exact ⟨o, h⟩
  obtain ⟨o', e'⟩ := this
  exact σ.mod u x e' trivial
theorem IsL.toW {l : List Value} {is : List Int} (hi : IntsAre l is) {o : Obj} (h : IsL l o) : IsW is o := by
  obtain ⟨n, rfl⟩ := h
  exact ⟨rfl, l, n, rfl, hi⟩
theorem ints_rep (t : Tok) : ∀ n : Nat, IntsAre (List.replicate n (.int 0 t)) (List.replicate n 0)
  | 0 => .nil
  | n + 1 => by rw [List.replicate_succ, List.replicate_succ]; exact .cons _ _ (ints_rep t n)
theorem ints_app {l m : List Value} {is js : List Int} (h : IntsAre l is) (k : IntsAre m js) : IntsAre (l ++ m) (is ++ js) := by
  induction h with
  | nil => exact k
  | cons i t _ ih => exact .cons i t ih
theorem ints_take {l : List Value} {is : List Int} (h : IntsAre l is) : ∀ n, IntsAre (l.take n) (is.take n) := by
  induction h with
  | nil => intro n; simpa using IntsAre.nil
  | cons i t _ ih =>
    intro n
    cases n with
    | zero => exact .nil
    | succ n => exact .cons i t (ih n)
section
variable {prog : Program} {w : World} {hb : Heap} {K : Frag}
theorem right_c (W : Wld hb) (O : Wob hb K) {A : Around} {g : FH} {s : Shared} {R : Result → Shared → Prop} (room : Room 8 A) (hz : Frz hb g s) {mx ol bl va : Addr} {p : Nat} {kind : Int} {tk : Tok} {ov xs vl : List Value} {own vals : List Int} {ops : List (List Int)} {o : List Int × List Int}
    (hm : ModG g mx) (hk0 : 0 ≤ kind) (hk1 : kind ≤ 1) (hp : (p : Int) = 1 + kind) (hol : TG g ol ov) (hown : IntsAre ov own) (hol3 : own.length ≤ 3) (hbl : LG g bl xs) (hops : OpsV g xs ops)
    (hcase : ∀ op ∈ ops, OpCase ((p + own.length : Nat) : Int) op) (hlen : ops.length ≤ 6000) (hva : LG g va vl) (hvals : IntsAre vl vals) (hv2 : vals.length = 2) (hok : OpsOk ops)
    (hr1 : Run ops [] [] (vals.take p ++ List.replicate own.length 0) o) (hr2 : Run (keptOps ops p ops) [] [] (vals.take p ++ List.replicate (keptOwn ops p own).length 0) o) (hok2 : OpsOk (keptOps ops p ops))
    (cont : ∀ s' g', Ext [] s s' → Grown g s g' s' → R (.ok (.ret (.bool true))) s') :
    codeAny (model prog w) A (.call (.ref 328) ⟨[.ref mx, .int kind tk, .ref ol, .ref bl, .ref va], []⟩) R s := by
  refine start (led := []) [] [(n_module, .ref mx), (n_kind, .int kind tk), (n_own, .ref ol), (n_body, .ref bl), (n_values, .ref va)] [n_params, n_given, n_told, n_due] [n_len, n_Func, n_list, n_without_locals, n_tuple, n_law_kept, n_law_run]
    (ns := [n_module, n_kind, n_own, n_body, n_values, n_params, n_given, n_told, n_due]) (vs := [some (.ref mx), some (.int kind tk), some (.ref ol), some (.ref bl), some (.ref va), none, none, none, none]) W.fn_wright (room_depth room) hz (BindsTo.of_eq rfl) rfl rfl (by decide +kernel) (by simp) (by simp) (by simp) ?_
  intro env E s₁ hG σ
  have R1 : Room 7 (A.deeper env) := room.deeper
  have hA : (A.deeper env).handled = none := R1.1
  have hsl : sizeLine = 16777216 := rfl
  have hxl := hops.length
  have hovl := ints_len hown
  have hvll := (ints_len hvals).trans hv2
  have hp2 := pk2 hk1 hp
  have hxs : xs.length ≤ 6000 := Nat.le_trans (Nat.le_of_eq hxl) hlen
  have hos : ov.length ≤ 3 := Nat.le_trans (Nat.le_of_eq hovl) hol3
  have hpv : (p : Int) ≤ vl.length := by rw [hvll]; exact Int.ofNat_le.2 hp2
  have hk2 := keptOps_len ops p ops
  have hk3 : (keptOwn ops p own).length ≤ own.length := by unfold keptOwn; rw [kown_len]; exact cnt_le ..
  obtain ⟨n1, f1, kl, kv, hm1, hm2, hm3, hm4⟩ := id hm
  obtain ⟨t1, a1, b1, lk1, hq1, hq2, hq3, hq4⟩ := hm4 kind hk0 hk1
  (show wpAny _ _ (execs (_ :: _) _) _ _ _; dsimp only [qn_BLOCK, qn_DROP, qn_ELSE, qn_END, qn_FUNCTION, qn_Func, qn_IF, qn_LOCAL_GET, qn_LOCAL_SET, qn_LOCAL_TEE, qn_LOOP, qn_Module, qn_Piece, qn__name__, qn_law_behind, qn_law_flat, qn_law_is_kept_right, qn_law_items, qn_law_join, qn_law_joined, qn_law_kept, qn_law_next, qn_law_pick, qn_law_run, qn_law_two, qn_wall, qn_ahead, qn_at, qn_body, qn_body_of, qn_codes, qn_deep, qn_due, qn_first, qn_found, qn_func, qn_given, qn_height, qn_here, qn_index, qn_inner, qn_int, qn_is_else, qn_items, qn_join_last, qn_join_locals, qn_k, qn_kept, qn_kind, qn_len, qn_list, qn_local, qn_locals_now, qn_many, qn_module, qn_name, qn_number, qn_one, qn_opened, qn_other, qn_out, qn_own, qn_params, qn_part, qn_parts_of, qn_piece, qn_pieces, qn_pieces_of, qn_place, qn_places, qn_plain, qn_property, qn_put_pieces, qn_range, qn_read, qn_rest, qn_script, qn_second, qn_self, qn_sign, qn_sort, qn_stack, qn_state, qn_sum, qn_tape, qn_thing, qn_things, qn_told, qn_tuple, qn_turn, qn_two, qn_values, qn_way, qn_without_locals, qn_word])
  walk_at "W"
  refine e_bfun1 σ hG W.bv_len (by walk_at "in") ?_
  walk_at "W"
  refine a_own σ O.kin O.M (σ.PG hm1) (by decide +kernel) hm2 rfl ?_
  clear σ; intro s₂ σ
  walk_at "W"
  refine k_lenT σ (σ.HT hq3) (sz (pk2 hk1 hq4) rfl) ?_
  clear σ; intro tp s₄ σ
  walk_at "W"
  rw [hq4, ← hp] at σ
  refine e_make σ hG O.kin O.F W.gv_Func (by walk_at "in") ?_
  walk_at "W"
  refine e_type1 σ hG W.bv_list (by walk_at "in") ?_
  walk_at "W"
  refine k_listL σ (σ.HLg hbl).isList (sz hxs rfl) ?_
  clear σ; intro cl s₅ σ hcl
  obtain ⟨g₂, le2, hlc, σ⟩ := σ.frzL (.refl _) hcl
  walk_at "W"
  refine ⟨σ.hbs, k_func W O σ R1.le ?_⟩
  clear σ; intro gx g₃ s₆ σ le3 hgx
  have leG3 : GLe g g₃ := le2.trans le3
  walk_at "W"
  refine e_call σ hG W.gv_wwithout W.fn_wwithout (by walk_at "in") ?_
  walk_at "W"
  refine ⟨σ.hbs, w_call (without_c W O R1.le σ.fz (hm.mono leG3) hgx hk0 hk1 hp (hol.mono leG3) hown hol3 (hlc.mono le3) (hops.mono leG3) hcase hlen fun s₇ g₄ tx kl2 kv2 bl2 ys2 x y hpt hkl2 hkv2 hbl2 hys2 => rv ?_)⟩
  have le4 : GLe g₃ g₄ := y.ggr
  have leG4 := leG3.trans le4
  replace σ := σ.growN x y
  walk_at "W"
  refine xs_if ?_
  walk_at "W"
  refine' e_meth0 O.kin O.F O.plain ?_ ?k1
  case k1 => with_unfolding_all rfl
  walk_at "W"
  refine ⟨gx, 3, _, rfl, σ.PG (hgx.mono le4), fA_plain .., σ.hbs, w_call (fplain_c W O R1.le σ.fz (hgx.mono le4) rfl (hol.mono leG4) (hlc.mono (le3.trans le4)) (Nat.le_trans hxs (by decide)) fun s₈ g₅ pt bt x y hpt5 hbt5 => rv ?_)⟩
  have le5 : GLe g₄ g₅ := y.ggr
  have leG5 := leG4.trans le5
  replace σ := σ.growN x y
  walk_at "W"
  refine e_type1 σ hG W.bv_tuple (by walk_at "in") ?_
  walk_at "W"
  refine k_tupleL σ (σ.HLg (hbl.mono leG5)).isList (sz hxs rfl) ?_
  clear σ; intro bt2 g₆ s₉ σ le6 hbt6
  walk_at "W"
  have hu4 := room_units R1
  refine c_ne_tuples (e := fun _ => true) (σ.HT (hpt5.mono (le6.trans hgg))) (σ.HT htg) hu4 (fun j h1 h2 => ?_) ?_
  · match j, h1 with
    | 0, _ => exact EqAt.same _
    | 1, _ => exact EqAt.same _
    | 2, _ =>
      have := opsT_eqR (A := (A.deeper env).in1) σ.gin (σ.HT (hbt5.mono (le6.trans hgg))) (σ.HT (hbt6.mono hgg)) (hops.mono (leG5.trans (le6.trans hgg))) (hops.mono (leG5.trans (le6.trans hgg))) (Room.in1 (k := 1) R1.le)
      rw [decide_eq_true rfl] at this
      exact this
  show wpAny _ _ (truthy (.bool false)) _ _ _
  walk_at "W"
  have leG6 := leG5.trans (le6.trans hgg)
  have le46 : GLe g₄ gg := le5.trans (le6.trans hgg)
  refine a_own σ O.kin O.F (σ.PG (hpt.mono le46)) (by decide +kernel) (fA_kind ..) rfl ?_
  clear σ; intro s₁₀ σ
  walk_at "W"
  refine sp_ct ?_ rfl
  walk_at "W"
  refine xs_if ?_
  walk_at "W"
  refine a_own σ O.kin O.F (σ.PG (hpt.mono le46)) (by decide +kernel) (fA_locals ..) rfl ?_
  clear σ; intro s₁₁ σ
  walk_at "W"
  refine a_own σ O.kin O.F (σ.PG (hpt.mono le46)) (by decide +kernel) (fA_body ..) rfl ?_
  clear σ; intro s₁₂ σ
  walk_at "W"
  have htd := htg
  refine e_call σ hG W.gv_wkept W.fn_wkept (by walk_at "in") ?_
  walk_at "W"
  refine ⟨σ.hbs, w_call (kept_c W R1.le σ.fz (Nat.le_succ_of_le hp2) (hol.mono (by walk_at "gle")) hown hol3 (hbl.mono (by walk_at "gle")) (hops.mono (by walk_at "gle")) hcase hlen fun s₁₃ g₇ t3 kl3 kv3 bl3 ys3 x y ht3 hkl3 hkv3 hbl3 hys3 => rv ?_)⟩
  have le7 := y.ggr
  replace σ := σ.growN x y
  have leB : GLe g₄ g₇ := by
    refine GLe.trans ?_ le7
    walk_at "gle"
  have leA : GLe g g₇ := leG4.trans leB
  refine c_ne_tuples (e := fun _ => true) (σ.HT (htd.mono le7)) (σ.HT ht3) hu4 (fun j h1 h2 => ?_) ?_
  · match j, h1 with
    | 0, _ =>
      have := ints_eqR (A := (A.deeper env).in1) (σ.HT (hkl2.mono leB)) (σ.HT hkl3) hkv2 hkv3 (room_units (Room.in1 (k := 1) R1.le))
      rw [decide_eq_true rfl] at this
      exact this
    | 1, _ =>
      have := ops_eqR (A := (A.deeper env).in1) σ.gin (σ.HLg (hbl2.mono leB)) (σ.HLg hbl3) (hys2.mono leB) hys3 (Room.in1 (k := 1) R1.le)
      rw [decide_eq_true rfl] at this
      exact this
  show wpAny _ _ (truthy (.bool false)) _ _ _
  walk_at "W"
  have hvt := ints_take hvals p
  refine e_call σ hG W.gv_wrun W.fn_wrun (by walk_at "in") ?_
  walk_at "W"
  (refine ⟨_, _, _, σ, ?_⟩; clear σ; intro sa gsl _ σ hgs hsg)
  refine sl_list σ (lo := none) (hi := some (p : Int)) (σ.HLg (hva.mono (leA.trans hgs))) hsg .none (.int _ _) (sz (Nat.le_of_eq hvll) rfl) (pick_upto vl (Int.natCast_nonneg _) hpv) ?_
  clear σ; intro c1 s₁₄ σ hc1
  rw [Int.toNat_natCast] at σ
  walk_at "W"
  refine e_bfun1 σ hG W.bv_len (by walk_at "in") ?_
  walk_at "W"
  refine k_lenT σ (σ.HT (hol.mono (leA.trans hgs))) (sz hos rfl) ?_
  clear σ; intro tl s₁₅ σ
  refine mul_one σ (σ.HL .head) (Int.natCast_nonneg _) (Int.le_trans (Int.ofNat_le.2 hos) (by decide)) ?_
  clear σ; intro c2 s₁₆ σ hc2
  rw [Int.toNat_natCast, hovl] at σ
  refine add_lists σ (σ.HL (.tail (.tail .head))) (σ.HL .head) (by simp; exact sz (Nat.add_le_add (Nat.le_trans (Nat.min_le_right _ _) (Nat.le_of_eq hvll)) hol3) rfl) ?_
  clear σ; intro c3 s₁₇ σ hc3
  replace σ := σ.drop (led' := [(c3, IsL (vl.take p ++ List.replicate own.length (Value.int 0 _)))]) (.cons_cons _ (List.nil_sublist _))
  walk_at "W"
  obtain ⟨oc, ec, ic⟩ := σ.get .head
  have hrt := hr1
  refine ⟨σ.hbs, w_call (run_c W R1.le σ.fz (hbl.mono (leA.trans hgs)) (hops.mono (leA.trans hgs)) hok hlen ⟨oc, ec, ic.toW (ints_app hvt (ints_rep _ _))⟩ (σ.gl .head) hr1 fun s₁₈ g₈ t8 a81 a82 v81 v82 x y ht8 hl81 hl82 hi81 hi82 => rv ?_)⟩
  have le8 := y.ggr
  have σm := σ.modT .head x
  replace σ := (σ.back σm rfl y).drop (List.nil_sublist _)
  clear σm oc ec ic hrt
  have leC : GLe g₇ g₈ := by
    refine GLe.trans ?_ le8
    walk_at "gle"
  have leA8 : GLe g g₈ := leA.trans leC
  walk_at "W"
  refine e_call σ hG W.gv_wrun W.fn_wrun (by walk_at "in") ?_
  walk_at "W"
  refine a_own σ O.kin O.F (σ.PG (hpt.mono (leB.trans leC))) (by decide +kernel) (fA_body ..) rfl ?_
  clear σ; intro s₁₉ σ
  walk_at "W"
  rcases (⟨gsl, rfl⟩ : ∃ x, x = gsl) with ⟨gsl1, rfl⟩
  (refine ⟨_, _, _, σ, ?_⟩; clear σ; intro sa gsl _ σ hgs hsg)
  refine sl_list σ (lo := none) (hi := some (p : Int)) (σ.HLg (hva.mono (leA8.trans hgs))) hsg .none (.int _ _) (sz (Nat.le_of_eq hvll) rfl) (pick_upto vl (Int.natCast_nonneg _) hpv) ?_
  clear σ; intro c4 s₂₀ σ hc4
  rw [Int.toNat_natCast] at σ
  walk_at "W"
  refine e_bfun1 σ hG W.bv_len (by walk_at "in") ?_
  walk_at "W"
  refine a_own σ O.kin O.F (σ.PG (hpt.mono (leB.trans (leC.trans hgs)))) (by decide +kernel) (fA_locals ..) rfl ?_
  clear σ; intro s₂₁ σ
  have hkl2l := ints_len hkv2
  have hk4 : kv2.length ≤ 3 := Nat.le_trans (Nat.le_of_eq hkl2l) (Nat.le_trans hk3 hol3)
  refine k_lenT σ (σ.HT (hkl2.mono (leB.trans (leC.trans hgs)))) (sz hk4 rfl) ?_
  clear σ; intro tl2 s₂₂ σ
  refine mul_one σ (σ.HL .head) (Int.natCast_nonneg _) (Int.le_trans (Int.ofNat_le.2 hk4) (by decide)) ?_
  clear σ; intro c5 s₂₃ σ hc5
  rw [Int.toNat_natCast, hkl2l] at σ
  refine add_lists σ (σ.HL (.tail (.tail .head))) (σ.HL .head) (by simp; exact sz (Nat.add_le_add (Nat.le_trans (Nat.min_le_right _ _) (Nat.le_of_eq hvll)) (Nat.le_trans hk3 hol3)) rfl) ?_
  clear σ; intro c6 s₂₄ σ hc6
  replace σ := σ.drop (led' := [(c6, IsL (vl.take p ++ List.replicate (keptOwn ops p own).length (Value.int 0 _)))]) (.cons_cons _ (List.nil_sublist _))
  walk_at "W"
  obtain ⟨oc, ec, ic⟩ := σ.get .head
  refine ⟨σ.hbs, w_call (run_c W R1.le σ.fz (hbl2.mono (leB.trans (leC.trans hgs))) (hys2.mono (leB.trans (leC.trans hgs))) hok2 (Nat.le_trans hk2 hlen) ⟨oc, ec, ic.toW (ints_app hvt (ints_rep _ _))⟩ (σ.gl .head) hr2 fun s₂₅ g₉ t9 a91 a92 v91 v92 x y ht9 hl91 hl92 hi91 hi92 => rv ?_)⟩
  have le9 := y.ggr
  have σm := σ.modT .head x
  replace σ := (σ.back σm rfl y).drop (List.nil_sublist _)
  clear σm oc ec ic
  have leD : GLe g₈ g₉ := hgs.trans le9
  walk_at "W"
  refine c_eq_tuples (e := fun _ => true) (σ.HT ht9) (σ.HT (ht8.mono leD)) hu4 (fun j h1 h2 => ?_) ?_
  · match j, h1 with
    | 0, _ =>
      have := intsL_eqR (A := (A.deeper env).in1) (σ.HLg hl92) (σ.HLg (hl82.mono leD)) hi92 hi82 (room_units (Room.in1 (k := 1) R1.le))
      rw [decide_eq_true rfl] at this
      exact this
    | 1, _ =>
      have := intsL_eqR (A := (A.deeper env).in1) (σ.HLg hl91) (σ.HLg (hl81.mono leD)) hi91 hi81 (room_units (Room.in1 (k := 1) R1.le))
      rw [decide_eq_true rfl] at this
      exact this
  show R (.ok (.ret (.bool true))) _
  exact cont _ _ σ.ext σ.grownOf
end
noncomputable def ScG (g : FH) (sc : Addr) (vs : List Value) : Prop := ∃ o, g sc = some o ∧ o.cls = .type "list" ∧ ∃ n, o.data = .seq vs.toArray n
theorem ScG.mono {g g' : FH} {sc vs} (h : ScG g sc vs) (le : GLe g g') : ScG g' sc vs := let ⟨o, a, b, c⟩ := h; ⟨o, le _ _ a, b, c⟩
theorem S.sc {hb : Heap} {s0 : Shared} {mods : List Addr} {g0 g : FH} {env : Env} {ns : List Str} {vs : List (Option Value)} {led : Led} {s : Shared} (σ : S hb s0 mods g0 env ns vs led g s) {sc : Addr} {l : List Value} (h : ScG g sc l) : s.heap.IsList sc l.toArray :=
  let ⟨o, a, b, c⟩ := h; ⟨o, σ.gin _ _ a, b, c⟩
theorem pow4 {j : Nat} (h : j < 4) : (4 : Int) ^ (((j : Nat) : Int).toNat) ≠ 0 ∧ ((4 : Int) ^ (((j : Nat) : Int).toNat)).natAbs < 1073741824 := by
  match j, h with
  | 0, _ => decide
  | 1, _ => decide
  | 2, _ => decide
  | 3, _ => decide
theorem four_ints {l : List Value} {is : List Int} (h : IntsAre l is) (hl : is.length = 4) {i : Int} (h0 : 0 ≤ i) (h1 : i < 4) : ∃ c t, l[i.toNat]? = some (.int c t) := by
  obtain ⟨t, ht⟩ := ints_at h (j := i.toNat) (List.getElem?_eq_getElem (tn_lt (congrArg Nat.cast hl) h0 h1))
  exact ⟨_, t, ht⟩
section
variable {prog : Program} {w : World} {hb : Heap} {K : Frag}
theorem law_c (W : Wld hb) (O : Wob hb K) {A : Around} {g : FH} {s : Shared} {R : Result → Shared → Prop} (room : Room 30 A) (hz : Frz hb g s) {sc : Addr} {sv : List Value} {ss : List Int} (hsc : ScG g sc sv) (hss : IntsAre sv ss) (hlen : ss.length ≤ 63)
    (cont : ∀ s', Ext [] s s' → R (.ok (.ret (.bool true))) s') :
    codeAny (model prog w) A (.call (.ref 333) ⟨[.ref sc], []⟩) R s := by
  refine startC (led := []) [] [(n_script, .ref sc)] [(n_script, .ref sc)] [n_tape, n_module, n_kind, n_own, n_state, n_values, n_items, n_body, n_due, n_kept, n_places] [n_list, n_Module, n_law_next, n_tuple, n_range, n_len, n_sum, n_law_items, n_law_flat, n_law_joined, n_law_join, n_law_run, n_law_is_kept_right] [(n_number, none)] [n_script] [n_number]
    (ns := [n_script, n_tape, n_module, n_kind, n_own, n_state, n_values, n_items, n_body, n_due, n_kept, n_places]) (vs := [some (.ref sc), none, none, none, none, none, none, none, none, none, none, none]) W.fn_wlaw (room_depth room) hz rfl (by with_unfolding_all rfl) (by with_unfolding_all rfl) rfl rfl rfl rfl (by decide +kernel) (by simp) (by simp) (by simp) ?_
  intro env E s₁ cs hG hcs σ
  cases hcs with | @cons _ _ cn _ _ ecn hcs =>
  cases hcs
  simp only [cellLed, List.nil_append, List.cons_append, List.append_nil] at σ
  have R1 : Room 29 (A.deeper env) := room.deeper
  have hA : (A.deeper env).handled = none := R1.1
  have hsl : sizeLine = 16777216 := rfl
  have hkind := σ.eok.kind
  have hsvl := ints_len hss
  (show wpAny _ _ (execs (_ :: _) _) _ _ _; dsimp only [qn_BLOCK, qn_DROP, qn_ELSE, qn_END, qn_FUNCTION, qn_Func, qn_IF, qn_LOCAL_GET, qn_LOCAL_SET, qn_LOCAL_TEE, qn_LOOP, qn_Module, qn_Piece, qn__name__, qn_law_behind, qn_law_flat, qn_law_is_kept_right, qn_law_items, qn_law_join, qn_law_joined, qn_law_kept, qn_law_next, qn_law_pick, qn_law_run, qn_law_two, qn_wall, qn_ahead, qn_at, qn_body, qn_body_of, qn_codes, qn_deep, qn_due, qn_first, qn_found, qn_func, qn_given, qn_height, qn_here, qn_index, qn_inner, qn_int, qn_is_else, qn_items, qn_join_last, qn_join_locals, qn_k, qn_kept, qn_kind, qn_len, qn_list, qn_local, qn_locals_now, qn_many, qn_module, qn_name, qn_number, qn_one, qn_opened, qn_other, qn_out, qn_own, qn_params, qn_part, qn_parts_of, qn_piece, qn_pieces, qn_pieces_of, qn_place, qn_places, qn_plain, qn_property, qn_put_pieces, qn_range, qn_read, qn_rest, qn_script, qn_second, qn_self, qn_sign, qn_sort, qn_stack, qn_state, qn_sum, qn_tape, qn_thing, qn_things, qn_told, qn_tuple, qn_turn, qn_two, qn_values, qn_way, qn_without_locals, qn_word])
  (refine' xs_swap2 σ ?k1 ?k2 ?k3 ?k4 ?k5 ?k6 ?k7 ?k8 ?_ ?k9; (case k1 => walk_at "in"); (case k2 => walk_at "in"); (case k3 => decide); (case k4 => rfl); (case k5 => intro _ _ q; cases q); (case k6 => intro _ _ q; cases q); (case k7 => decide +kernel); (case k8 => decide +kernel); (case k9 => with_unfolding_all rfl))
  walk_at "W"
  refine e_type1 σ hG W.bv_list (by walk_at "in") ?_
  walk_at "W"
  have hs0 : ss.length ≤ 1000 := Nat.le_trans hlen (by decide)
  refine k_listL σ (σ.sc hsc) (sz (Nat.le_trans (Nat.le_of_eq hsvl) hlen) rfl) ?_
  clear σ; intro ta0 s₂ σ hta0
  replace σ := σ.weak (P' := IsI ss) .head (fun o q => ⟨_, q, hss⟩)
  walk_at "W"
  refine e_make0 σ hG O.kin O.M W.gv_Module (by walk_at "in") ?_
  refine k_module W O σ R1.le ?_
  clear σ; intro mx mdx f0 g₂ s₃ σ le2 hmx hmd
  walk_at "W"
  rename_i a4 g4 _ h4 T4 _ _ _ _ a3 g3 _ h3 T3 a2 g2 _ h2 T2 _ _ _ _ _ _ _ _ a1 g1 _ h1 T1 _ _ _ _ a0 g0 _ h0 T0 _ _
  have le10 : GLe g₂ gg := by walk_at "gle"
  have le24 : GLe g2 gg := h1.trans (h0.trans hgg)
  have hT4 : TG gg a4 _ := T4.mono (h3.trans (h2.trans le24))
  have hT2 : TG gg a2 _ := T2.mono le24
  have hT1 : TG gg a1 _ := T1.mono (h0.trans hgg)
  refine a_set σ O.kin O.M (σ.gin _ _ (le10 _ _ hmx)) (.tail .head) (by decide) (by decide +kernel) ?_
  clear σ; intro s₄ σ
  obtain ⟨g₅, le5, hlk, σ⟩ := σ.frzL (.refl _) hla
  obtain ⟨om, him, _, σ, le6⟩ := σ.frz (.refl _) hmd
  generalize hg6 : g₅.put mdx om = g₆ at σ le6
  have le56 : GLe gg g₆ := GLe.trans le5 le6
  have hmod : ModG g₆ mx := by
    refine ⟨12, _, la, _, ⟨mdx, om, le56 _ _ (le10 _ _ hmx), by rw [← hg6]; exact FH.put_self, him⟩, if_pos rfl, hlk.mono le6, fun kind k0 k1 => ?_⟩
    have : kind = 0 ∨ kind = 1 := by lia
    rcases this with rfl | rfl
    · exact ⟨_, _, _, _, rfl, hT2.mono le56, hT4.mono le56, by simp⟩
    · exact ⟨_, _, _, _, rfl, htg.mono le56, hT1.mono le56, by simp⟩
  have leG6 : GLe g g₆ := le2.trans (le10.trans le56)
  clear hT4 hT2 hT1 T0 T1 T2 T3 T4 h0 h1 h2 h3 h4 hlk him hg6
  walk_at "W"
  refine xs_tup2 ?_ (by with_unfolding_all rfl) (swap_none σ.eok (by walk_at "in") ecn (by intro _ _ q; cases q) (by intro _ _ q; cases q))
  walk_at "W"
  refine e_call σ hG W.gv_wnext W.fn_wnext (by walk_at "in") ?_
  walk_at "W"
  refine ⟨σ.hbs, w_call (next_c W R1.le σ.fz (σ.get .head) (σ.gl .head) hs0 fun s₅ tn1 x ho => rv ?_)⟩
  replace σ := σ.mod (P' := IsI ss.tail) .head x ho.choose_spec.1 ho.choose_spec.2
  clear x ho
  walk_at "W"
  refine e_call σ hG W.gv_wnext W.fn_wnext (by walk_at "in") ?_
  walk_at "W"
  refine ⟨σ.hbs, w_call (next_c W R1.le σ.fz (σ.get .head) (σ.gl .head) (tl_le hs0) fun s₆ tn2 x ho => rv ?_)⟩
  replace σ := σ.mod (P' := IsI ss.tail.tail) .head x ho.choose_spec.1 ho.choose_spec.2
  clear x ho
  have hkd0 : 0 ≤ (ss.headD 0).fmod 2 := Int.fmod_nonneg_of_pos _ (by decide)
  have hkd1 : (ss.headD 0).fmod 2 < 2 := Int.fmod_lt_of_pos _ (by decide)
  generalize (ss.headD 0).fmod 2 = kind at *
  generalize ss.tail.headD 0 = number at *
  walk_at "W"
  refine as_tuple2 σ hA (σ.HT htg) rfl ?_
  clear σ; intro s₇ σ
  walk_at "W"
  refine e_type1 σ hG W.bv_tuple (by walk_at "in") ?_
  have leG7 : GLe g gg := leG6.trans hgg
  replace hmod := hmod.mono hgg
  refine' e_comp σ ?a1 rfl ?a2 ?a3 ?a4 ?a5 ?_ ?a6
  case a1 => decide +kernel
  case a2 => decide +kernel
  case a3 => decide +kernel
  case a4 => decide +kernel
  case a5 => exact hf_of [n_number] (by decide +kernel) ⟨⟨_, ecn⟩, trivial⟩
  case a6 => intro _; with_unfolding_all rfl
  refine e_type1 σ hG W.bv_range (by walk_at "in") ?_
  walk_at "W"
  have hr0 : 0 ≤ number.fmod 4 := Int.fmod_nonneg_of_pos _ (by decide)
  have hr4 : number.fmod 4 < 4 := Int.fmod_lt_of_pos _ (by decide)
  have hr3 := f3 hr4
  refine iter_of_range σ (Int.lt_trans hr4 (by decide)) hr0 ?_
  clear σ; intro it s₈ σ hit
  refine ⟨it, _, _, _, _, _, _, _, fun j acc _ => ∃ is, IntsAre acc is ∧ is.length = j, rfl, iter_range hA, σ, hit, sz hr3 rfl, fun _ _ _ _ => trivial, ⟨[], .nil, rfl⟩, ?_, ?_⟩
  · clear σ
    rintro j acc g' v D C s' E' hj ⟨t, rfl⟩ ⟨is, hJ, hjl⟩ hle _ σ
    have ecn' := ec_in σ hkind ecn (by decide +kernel)
    refine ifs_nil ?_
    rw [if_pos rfl]
    walk_at "W"
    refine i_pow σ (Int.natCast_nonneg _) (Int.le_trans (Int.ofNat_le.2 (Nat.le_of_lt (Nat.lt_of_lt_of_le hj hr3))) (by decide)) (by decide) ?_
    clear σ; intro t4 s₉ σ
    obtain ⟨p1, p2⟩ := pow4 (j := j) (Nat.lt_succ_of_lt (Nat.lt_of_lt_of_le hj hr3))
    refine i_fdivB σ p1 p2 ?_
    clear σ; intro t5 s₁₀ σ
    generalize number.fdiv (4 ^ ((j : Int)).toNat) = q
    walk_at "W"
    have q0 : 0 ≤ q.fmod 4 := Int.fmod_nonneg_of_pos _ (by decide)
    have q4 : q.fmod 4 < 4 := Int.fmod_lt_of_pos _ (by decide)
    refine ix_tuple (σ.HT htg) q0 (Int.lt_trans q4 (by decide)) (four_ints (.cons _ _ (.cons _ _ (.cons _ _ (.cons _ _ .nil)))) rfl q0 q4).choose_spec.choose_spec ?_
    exact ⟨_, hgg, ⟨_, ints_snoc hJ _ _, by simp [hjl]⟩, σ⟩
  clear σ
  intro acc g₈ D hJ le8 hal8 hD s₉ σ
  obtain ⟨own, hown, hol⟩ := hJ
  have haccl := ints_len hown
  have hol3 : own.length ≤ 3 := Nat.le_trans (Nat.le_of_eq hol) hr3
  have hac : acc.length ≤ 3 := Nat.le_trans (Nat.le_of_eq haccl) hol3
  refine k_tupleL σ (σ.HL .head).isList (sz hac rfl) ?_
  clear σ; intro ol g₉ s₁₀ σ le9 hol9
  replace σ := σ.drop (List.sublist_cons_self ..)
  walk_at "W"
  have leG9 : GLe g g₉ := leG7.trans (le8.trans le9)
  replace hmod := hmod.mono (le8.trans le9)
  (refine' xs_swap2 σ ?k1 ?k2 ?k3 ?k4 ?k5 ?k6 ?k7 ?k8 ?_ ?k9; (case k1 => walk_at "in"); (case k2 => walk_at "in"); (case k3 => decide); (case k4 => rfl); (case k5 => intro _ _ q; cases q); (case k6 => intro _ _ q; cases q); (case k7 => decide +kernel); (case k8 => decide +kernel); (case k9 => with_unfolding_all rfl))
  walk_at "W"
  refine d_two σ (by decide +kernel : n_local ≠ n_many) ?_
  clear σ; intro d s₁₁ σ hdf
  walk_at "W"
  refine ⟨_, _, _, σ, ?_⟩
  clear σ; intro s₁₂ σ
  walk_at "W"
  refine e_bfun1 σ hG W.bv_len (by walk_at "in") ?_
  walk_at "W"
  refine k_lenT σ (σ.HT hol9) (sz hac rfl) ?_
  clear σ; intro tl s₁₃ σ
  walk_at "W"
  refine ⟨_, _, _, σ, ?_⟩
  clear σ; intro s₁₄ σ
  walk_at "W"
  refine e_bfun1 σ hG W.bv_sum (by walk_at "in") ?_
  walk_at "W"
  refine k_sum σ hA (σ.sc (hsc.mono leG9)) hss ?_
  clear σ; intro ts1 s₁₅ σ
  walk_at "W"
  refine e_bfun1 σ hG W.bv_sum (by walk_at "in") ?_
  walk_at "W"
  refine k_sum σ hA (σ.sc (hsc.mono leG9)) hss ?_
  clear σ; intro ts2 s₁₆ σ
  walk_at "W"
  rcases (⟨la, rfl⟩ : ∃ x, x = la) with ⟨va, rfl⟩
  obtain ⟨p, hp⟩ : ∃ p : Nat, (p : Int) = 1 + kind := ⟨(1 + kind).toNat, Int.toNat_of_nonneg (Int.add_nonneg (by decide) hkd0)⟩
  have hpos := pos1 hkd0 hp own.length
  have hp2 := pk2 (Int.le_of_lt_add_one hkd1) hp
  have em : (1 + kind + ((acc.length : Nat) : Int)) = ((p + own.length : Nat) : Int) := by rw [haccl, ← hp]; rfl
  rw [em] at σ
  replace σ := σ.weak (P' := IsSt prog w ((p + own.length : Nat) : Int)) (.tail .head) (fun o q => ⟨0, _, _, by decide, hpos, q⟩)
  obtain ⟨g₁₀, le10', hva, σ⟩ := σ.frzL (.refl _) (by assumption)
  walk_at "W"
  have le910 : GLe g₉ g₁₀ := by
    refine GLe.trans ?_ le10'
    walk_at "gle"
  have leG10 : GLe g g₁₀ := leG9.trans le910
  refine e_call σ hG W.gv_witems W.fn_witems (by walk_at "in") ?_
  walk_at "W"
  refine e_call σ hG W.gv_wnext W.fn_wnext (by walk_at "in") ?_
  walk_at "W"
  refine ⟨σ.hbs, w_call (next_c W R1.le σ.fz (σ.get (.tail .head)) (σ.gl (.tail .head)) (tl_le (tl_le hs0)) fun s₁₇ tn3 x ho => rv ?_)⟩
  replace σ := σ.mod (P' := IsI ss.tail.tail.tail) (.tail .head) x ho.choose_spec.1 ho.choose_spec.2
  clear x ho
  have hn0 : 0 ≤ (ss.tail.tail.headD 0).fmod 11 := Int.fmod_nonneg_of_pos _ (by decide)
  have hn11 : (ss.tail.tail.headD 0).fmod 11 < 11 := Int.fmod_lt_of_pos _ (by decide)
  walk_at "W"
  have hne : ta0 ≠ d := by
    have := (List.nodup_cons.mp (List.nodup_cons.mp σ.nodup).2).1
    simp only [List.map_cons, List.mem_cons, not_or] at this
    intro e; exact this.1 e.symm
  refine ⟨σ.hbs, w_call (items0 W R1.le σ.fz (σ.get (.tail .head)) (σ.gl (.tail .head)) (σ.get .head) (σ.gl .head) hne (tl_le (tl_le (tl_le hs0))) (Int.add_nonneg (by decide) hn0) (n12 hn11) fun s₁₈ ia g₁₁ xs l x y hin hio hig hv hwf hfl hdp hti hdi => rv ?_)⟩
  obtain ⟨ns', hle', hti⟩ := hti
  have le11 : GLe g₁₀ g₁₁ := y.ggr
  have hin0 : s.heap.get? ia = none := σ.ext.live hin
  replace σ := σ.adopt1 (σ.back (σ.mod2 (.tail .head) .head x hti hdi) rfl y) rfl hin hio hig
  clear x y hti hdi hio hig
  have hfl' : (flatL l).length ≤ 2076 := Nat.le_trans hfl (Nat.mul_le_mul_right 173 (tn12 (n12 hn11)))
  have hxl := hv.length
  have hll := flatL_length l
  walk_at "W"
  refine m_append ?_
  walk_at "W"
  refine k_app1 (σ.HL .head) ?_
  walk_at "W"
  refine e_call σ hG W.gv_wnext W.fn_wnext (by walk_at "in") ?_
  walk_at "W"
  refine ⟨σ.hbs, w_call (next_c W R1.le σ.fz (σ.get (.tail (.tail .head))) (σ.gl (.tail (.tail .head))) (Nat.le_trans hle' (tl_le (tl_le (tl_le hs0)))) fun s₁₉ tn4 x ho => rv ?_)⟩
  replace σ := σ.mod (P' := IsI ns'.tail) (.tail (.tail .head)) x ho.choose_spec.1 ho.choose_spec.2
  clear x ho
  walk_at "W"
  refine ld_many σ (.tail .head) ?_
  clear σ; intro tm s₂₀ σ
  refine i_mod σ (Int.ne_of_gt hpos) ?_
  clear σ; intro tm2 s₂₁ σ
  have hi0 : 0 ≤ (ns'.headD 0).fmod ((p + own.length : Nat) : Int) := Int.fmod_nonneg_of_pos _ hpos
  have hi1 : (ns'.headD 0).fmod ((p + own.length : Nat) : Int) < ((p + own.length : Nat) : Int) := Int.fmod_lt_of_pos _ hpos
  generalize (ns'.headD 0).fmod ((p + own.length : Nat) : Int) = ix at *
  walk_at "W"
  refine ⟨_, σ.HL .head, sz (Nat.le_trans (Nat.le_of_eq hxl) (Nat.le_trans hll hfl')) rfl, fun s₂₂ x hx => ?_⟩
  replace σ := σ.modL .head x hx
  obtain ⟨g₁₂, le12, hlit, σ⟩ := σ.frzL (.refl _) hin0
  walk_at "W"
  have le1012 : GLe g₁₁ g₁₂ := by
    refine GLe.trans ?_ le12
    walk_at "gle"
  have hv2 : NodesV g₁₂ (xs ++ [.ref ta]) (l ++ [.leaf [32, ix]]) := ((hv.mono (by walk_at "gle")).snoc (node_leaf (by assumption) hgg htg (.cons _ _ (.cons _ _ .nil)))).mono le12
  have hwf2 : WF ((p + own.length : Nat) : Int) (l ++ [.leaf [32, ix]]) 0 1 := hwf.append (.get hi0 hi1 .nil)
  have hdp2 : depL (l ++ [.leaf [32, ix]]) ≤ 2 := by rw [depL_append]; simp [depL, depN]; exact hdp
  have hfl2 : (flatL (l ++ [.leaf [32, ix]])).length ≤ 2077 := by rw [flatL_append]; simp [flatL, flatN]; lia
  generalize l ++ [.leaf [32, ix]] = l2 at hv2 hwf2 hdp2 hfl2
  clear hv hwf hdp hfl hfl' hll
  have hgd2 := hwf2.good
  have leG12 : GLe g g₁₂ := leG10.trans (le11.trans le1012)
  (refine' xs_swap2 σ ?k1 ?k2 ?k3 ?k4 ?k5 ?k6 ?k7 ?k8 ?_ ?k9; (case k1 => walk_at "in"); (case k2 => walk_at "in"); (case k3 => decide); (case k4 => rfl); (case k5 => intro _ _ q; cases q); (case k6 => intro _ _ q; cases q); (case k7 => decide +kernel); (case k8 => decide +kernel); (case k9 => with_unfolding_all rfl))
  walk_at "W"
  refine e_call σ hG W.gv_wflat W.fn_wflat (by walk_at "in") ?_
  walk_at "W"
  refine ⟨σ.hbs, w_call (flat_c W 2 R1.le σ.fz hlit hv2 hdp2 (Nat.le_trans hfl2 (by decide)) fun s₂₃ c1 g₁₃ ys1 x y hlg1 hov1 => rv ?_)⟩
  have le13 : GLe g₁₂ g₁₃ := y.ggr
  replace σ := σ.growN x y
  clear x y
  walk_at "W"
  have hl1 := hov1.length
  refine add_lists σ (σ.HLg (hlg1.mono (by walk_at "gle"))) (σ.HL .head) (by simp; exact sz (Nat.succ_le_succ (Nat.le_trans (Nat.le_of_eq hl1) hfl2)) rfl) ?_
  clear σ; intro bl s₂₄ σ hblf
  replace σ := σ.drop (.cons_cons _ (List.sublist_cons_self ..))
  obtain ⟨g₁₄, le14, hbl, σ⟩ := σ.frzL (.refl _) hblf
  have le1314 : GLe g₁₃ g₁₄ := by
    refine GLe.trans ?_ le14
    walk_at "gle"
  have hbo : OpsV g₁₄ _ (full l2) := OpsV.mono le14 ((hov1.mono (by walk_at "gle")).snoc (op := [11]) ⟨_, htg, .cons _ _ .nil⟩)
  have le1214 : GLe g₁₂ g₁₄ := le13.trans le1314
  walk_at "W"
  refine e_call σ hG W.gv_wflat W.fn_wflat (by walk_at "in") ?_
  walk_at "W"
  refine e_call σ hG W.gv_wjoined W.fn_wjoined (by walk_at "in") ?_
  walk_at "W"
  refine ⟨σ.hbs, w_call (joined_c W (m := ((p + own.length : Nat) : Int)) 2 R1.le σ.fz (hlit.mono le1214) (hv2.mono le1214) hdp2 (Nat.le_trans hfl2 (by decide)) hgd2 fun s₂₅ jc g₁₅ ys2 x y hlg2 hnv2 => rv ?_)⟩
  have le15 : GLe g₁₄ g₁₅ := y.ggr
  replace σ := σ.growN x y
  clear x y
  walk_at "W"
  have hjd := joinL_dep l2
  have hjf := joinL_flat l2
  refine ⟨σ.hbs, w_call (flat_c W 2 R1.le σ.fz hlg2 hnv2 (Nat.le_trans hjd hdp2) (Nat.le_trans hjf (Nat.le_trans hfl2 (by decide))) fun s₂₆ c2 g₁₆ ys3 x y hlg3 hov3 => rv ?_)⟩
  have le16 : GLe g₁₅ g₁₆ := y.ggr
  replace σ := σ.growN x y
  clear x y
  walk_at "W"
  have hl3 := hov3.length
  refine add_lists σ (σ.HLg (hlg3.mono (by walk_at "gle"))) (σ.HL .head) (by simp; exact sz (Nat.succ_le_succ (Nat.le_trans (Nat.le_of_eq hl3) (Nat.le_trans hjf hfl2))) rfl) ?_
  clear σ; intro dl s₂₇ σ hdlf
  replace σ := σ.drop (.cons_cons _ (List.sublist_cons_self ..))
  obtain ⟨g₁₇, le17, hdl, σ⟩ := σ.frzL (.refl _) hdlf
  have le1617 : GLe g₁₆ g₁₇ := by
    refine GLe.trans ?_ le17
    walk_at "gle"
  have hdo : OpsV g₁₇ _ (full (joinL l2)) := OpsV.mono le17 ((hov3.mono (by walk_at "gle")).snoc (op := [11]) ⟨_, htg, .cons _ _ .nil⟩)
  have le1417 : GLe g₁₄ g₁₇ := le15.trans (le16.trans le1617)
  walk_at "W"
  have hl4 : (ys1 ++ [Value.ref _]).length = (full l2).length := hbo.length
  have hfl4 : (full l2).length ≤ 2078 := by unfold full; simp; lia
  have hfl5 : (full (joinL l2)).length ≤ 2078 := by unfold full; simp; lia
  refine e_type1 σ hG W.bv_list (by walk_at "in") ?_
  walk_at "W"
  have hbl17 := hbl.mono le1417
  have hbo17 := hbo.mono le1417
  rename GLe g₁₇ gg => le18
  clear hbl hbo hlg1 hov1 hlg2 hnv2 hlg3 hov3
  have hbl := hbl17.mono le18
  have hbo := hbo17.mono le18
  replace hdl := hdl.mono le18
  replace hdo := hdo.mono le18
  have leG18 : GLe g gg := leG12.trans (le1214.trans (le1417.trans le18))
  refine k_listL σ (σ.HLg hbl).isList (sz (Nat.le_trans (Nat.le_of_eq hl4) hfl4) rfl) ?_
  clear σ; intro kl s₂₈ σ hklf
  walk_at "W"
  refine xs_if ?_
  walk_at "W"
  refine e_call σ hG W.gv_wjn W.fn_wjn (by walk_at "in") ?_
  walk_at "W"
  refine ⟨σ.hbs, w_call (jn_c W O R1.le σ.fz hbl hbo hgd2 (by lia) (by lia) fun s₂₉ g₁₉ c3 ws x y hlg4 hov4 => rv ?_)⟩
  have le19 : GLe gg g₁₉ := y.ggr
  replace σ := σ.growN x y
  clear x y
  walk_at "W"
  refine c_ne_ops σ.gin (σ.HLg hlg4) (σ.HLg (hdl.mono le19)) hov4 (hdo.mono le19) R1.le ?_
  rw [decide_eq_true (show flatL (joinL l2) ++ [[11]] = full (joinL l2) from rfl)]
  show wpAny _ _ (truthy (.bool false)) _ _ _
  walk_at "W"
  refine e_call σ hG W.gv_wjn W.fn_wjn (by walk_at "in") ?_
  walk_at "W"
  refine ⟨σ.hbs, w_call (jn_c W O R1.le σ.fz (hdl.mono le19) (hdo.mono le19) (joinL_good hgd2) (by lia) (by lia) fun s₃₀ g₂₀ c4 ws2 x y hlg5 hov5 => rv ?_)⟩
  have le20 : GLe g₁₉ g₂₀ := y.ggr
  replace σ := σ.growN x y
  clear x y
  rw [joinL_idem] at hov5
  walk_at "W"
  refine c_ne_ops σ.gin (σ.HLg hlg5) (σ.HLg (hdl.mono (le19.trans le20))) hov5 (hdo.mono (le19.trans le20)) R1.le ?_
  rw [decide_eq_true (show flatL (joinL l2) ++ [[11]] = full (joinL l2) from rfl)]
  show wpAny _ _ (truthy (.bool false)) _ _ _
  walk_at "W"
  have le1820 : GLe gg g₂₀ := le19.trans le20
  refine c_ne_ops σ.gin (σ.HLg (hbl.mono le1820)) (σ.HL .head) (hbo.mono le1820) (hbo.mono le1820) R1.le ?_
  rw [decide_eq_true rfl]
  show wpAny _ _ (truthy (.bool false)) _ _ _
  walk_at "W"
  obtain ⟨vl, hva, hvals⟩ : ∃ vl, LG g₁₀ va vl ∧ IntsAre vl [5 + ss.sum.fmod 3, ss.sum.fmod 2] := ⟨_, hva, .cons _ _ (.cons _ _ .nil)⟩
  have hvll : vl.length = 2 := ints_len hvals
  have le1020 : GLe g₁₀ g₂₀ := (le11.trans le1012).trans (le1214.trans (le1417.trans (le18.trans le1820)))
  have hva20 := hva.mono le1020
  have hol20 : TG g₂₀ ol acc := hol9.mono (le910.trans le1020)
  have hmod20 : ModG g₂₀ mx := hmod.mono (le910.trans le1020)
  have hbl20 := hbl.mono le1820
  have hbo20 := hbo.mono le1820
  have hdl20 := hdl.mono le1820
  have hdo20 := hdo.mono le1820
  (refine ⟨_, _, _, σ, ?_⟩; clear σ; intro sa gsl _ σ hgs hsg)
  refine sl_list σ (lo := none) (hi := some (1 + kind)) (σ.HLg (hva20.mono hgs)) hsg .none (.int _ _) (sz (Nat.le_of_eq hvll) rfl) (pick_upto _ (Int.add_nonneg (by decide) hkd0) (by rw [hvll]; exact k12 hkd1)) ?_
  clear σ; intro c5 s₃₁ σ hc5
  rw [show (1 + kind).toNat = p by rw [← hp]; rfl] at σ
  walk_at "W"
  refine e_bfun1 σ hG W.bv_len (by walk_at "in") ?_
  walk_at "W"
  refine k_lenT σ (σ.HT (hol20.mono hgs)) (sz hac rfl) ?_
  clear σ; intro tl2 s₃₂ σ
  refine mul_one σ (σ.HL .head) (Int.natCast_nonneg _) (Int.le_trans (Int.ofNat_le.2 hac) (by decide)) ?_
  clear σ; intro c6 s₃₃ σ hc6
  rw [Int.toNat_natCast, haccl] at σ
  refine add_lists σ (σ.HL (.tail (.tail .head))) (σ.HL .head) (by simp; exact sz (Nat.add_le_add (Nat.le_trans (Nat.min_le_right _ _) (Nat.le_of_eq hvll)) hol3) rfl) ?_
  clear σ; intro pl s₃₄ σ hplf
  obtain ⟨g₂₁, le21, hpl, σ⟩ := σ.frzL (.refl _) hplf
  obtain ⟨pv, hpl, hpli⟩ : ∃ pv, LG g₂₁ pl pv ∧ IntsAre pv (List.take p [5 + ss.sum.fmod 3, ss.sum.fmod 2] ++ List.replicate own.length 0) := ⟨_, hpl, ints_app (ints_take hvals p) (ints_rep _ _)⟩
  walk_at "W"
  have leP : GLe g₂₀ g₂₁ := GLe.trans (by walk_at "gle") le21
  have hplen : (((List.take p [5 + ss.sum.fmod 3, ss.sum.fmod 2] ++ List.replicate own.length 0).length : Nat) : Int) = ((p + own.length : Nat) : Int) := by
    rw [List.length_append, List.length_take, List.length_replicate, List.length_cons, List.length_cons, List.length_nil, show min p (0 + 1 + 1) = p from Nat.min_eq_left hp2]
  have hwj := joinL_wf hwf2
  have hm62 : ((p + own.length : Nat) : Int) ≤ 2 ^ 62 := Int.le_trans (Int.ofNat_le.2 (Nat.add_le_add hp2 hol3)) (by decide)
  have rb := run_full hm62 hwf2 hplen
  have rj := run_full hm62 hwj hplen
  rw [out_join hm62 hwf2 hplen] at rj
  have hokb : OpsOk (full l2) := opsOk_end (opsOk_flat hgd2)
  have hokj : OpsOk (full (joinL l2)) := opsOk_end (opsOk_flat (joinL_good hgd2))
  have hpvl := ints_len hpli
  rw [List.length_append, List.length_take, List.length_replicate, List.length_cons, List.length_cons, List.length_nil] at hpvl
  have hdl21 := hdl20.mono leP
  have hdo21 := hdo20.mono leP
  have hbl21 := hbl20.mono leP
  have hbo21 := hbo20.mono leP
  refine xs_if ?_
  walk_at "W"
  refine e_call σ hG W.gv_wrun W.fn_wrun (by walk_at "in") ?_
  walk_at "W"
  refine e_type1 σ hG W.bv_list (by walk_at "in") ?_
  walk_at "W"
  have hpv : pv.length ≤ sizeLine := sz (Nat.le_trans (Nat.le_of_eq hpvl) (Nat.add_le_add (Nat.min_le_right _ _) hol3)) rfl
  refine k_listL σ (σ.HLg hpl).isList hpv ?_
  clear σ; intro q1 s₃₅ σ hq1
  walk_at "W"
  obtain ⟨oc, ec, ic⟩ := σ.get .head
  refine ⟨σ.hbs, w_call (run_c W R1.le σ.fz hdl21 hdo21 hokj (Nat.le_trans hfl5 (by decide)) ⟨oc, ec, ic.toW hpli⟩ (σ.gl .head) rj fun s₃₆ g₂₂ t8 a81 a82 v81 v82 x y ht8 hl81 hl82 hi81 hi82 => rv ?_)⟩
  have le22 : GLe g₂₁ g₂₂ := y.ggr
  have σm := σ.modT .head x
  replace σ := (σ.back σm rfl y).drop (List.sublist_cons_self ..)
  clear σm oc ec ic x y
  walk_at "W"
  refine e_call σ hG W.gv_wrun W.fn_wrun (by walk_at "in") ?_
  walk_at "W"
  refine e_type1 σ hG W.bv_list (by walk_at "in") ?_
  walk_at "W"
  refine k_listL σ (σ.HLg (hpl.mono le22)).isList hpv ?_
  clear σ; intro q2 s₃₇ σ hq2
  walk_at "W"
  obtain ⟨oc, ec, ic⟩ := σ.get .head
  refine ⟨σ.hbs, w_call (run_c W R1.le σ.fz (hbl21.mono le22) (hbo21.mono le22) hokb (Nat.le_trans hfl4 (by decide)) ⟨oc, ec, ic.toW hpli⟩ (σ.gl .head) rb fun s₃₈ g₂₃ t9 a91 a92 v91 v92 x y ht9 hl91 hl92 hi91 hi92 => rv ?_)⟩
  have le23 : GLe g₂₂ g₂₃ := y.ggr
  have σm := σ.modT .head x
  replace σ := (σ.back σm rfl y).drop (List.sublist_cons_self ..)
  clear σm oc ec ic x y
  walk_at "W"
  refine c_ne_tuples (e := fun _ => true) (σ.HT (ht8.mono le23)) (σ.HT ht9) (room_units R1) (fun j h1 h2 => ?_) ?_
  · match j, h1 with
    | 0, _ =>
      have := intsL_eqR (A := (A.deeper env).in1) (σ.HLg (hl82.mono le23)) (σ.HLg hl92) hi82 hi92 (room_units (Room.in1 (k := 1) R1.le))
      rw [decide_eq_true rfl] at this
      exact this
    | 1, _ =>
      have := intsL_eqR (A := (A.deeper env).in1) (σ.HLg (hl81.mono le23)) (σ.HLg hl91) hi81 hi91 (room_units (Room.in1 (k := 1) R1.le))
      rw [decide_eq_true rfl] at this
      exact this
  show wpAny _ _ (truthy (.bool false)) _ _ _
  walk_at "W"
  have leR : GLe g₂₀ g₂₃ := leP.trans (le22.trans le23)
  have hvp : (List.take p [5 + ss.sum.fmod 3, ss.sum.fmod 2]).length = p := by rw [List.length_take, List.length_cons, List.length_cons, List.length_nil]; exact Nat.min_eq_left hp2
  have kb := run_kept (n := own.length) hm62 hwf2 hvp
  have kj := run_kept (n := own.length) hm62 hwj hvp
  rw [out_join hm62 hwf2 hplen] at kj
  have ek : ∀ O, (keptOwn O p own).length = cnt O p own.length := fun O => by unfold keptOwn; exact kown_len ..
  rw [← ek] at kb kj
  refine BoolOp_and ?_
  refine e_call σ hG W.gv_wright W.fn_wright (by walk_at "in") ?_
  walk_at "W"
  refine ⟨σ.hbs, w_call (right_c W O R1.le σ.fz (hmod20.mono leR) hkd0 (Int.le_of_lt_add_one hkd1) hp (hol20.mono leR) hown hol3 (hbl20.mono leR) (hbo20.mono leR) (case_full hgd2) (Nat.le_trans hfl4 (by decide)) (hva20.mono leR) hvals rfl hokb rb kb (kept_ok (case_full hgd2)) fun s₃₉ g₂₄ x y => rv ?_)⟩
  have leS : GLe g₂₀ g₂₄ := leR.trans y.ggr
  replace σ := σ.growN x y
  walk_at "W"
  rw [if_pos rfl]
  refine BoolOp_one ?_
  refine e_call σ hG W.gv_wright W.fn_wright (by walk_at "in") ?_
  walk_at "W"
  refine ⟨σ.hbs, w_call (right_c W O R1.le σ.fz (hmod20.mono leS) hkd0 (Int.le_of_lt_add_one hkd1) hp (hol20.mono leS) hown hol3 (hdl20.mono leS) (hdo20.mono leS) (case_full (joinL_good hgd2)) (Nat.le_trans hfl5 (by decide)) (hva20.mono leS) hvals rfl hokj rj kj (kept_ok (case_full (joinL_good hgd2))) fun s₄₀ g₂₅ x y => rv ?_)⟩
  replace σ := σ.growN x y
  show R (.ok (.ret (.bool true))) _
  exact cont _ σ.ext
end
end Mine
end
section
open PySem PySem.W PyProof.Rows PySem.Calls
namespace Mine
theorem fn_at {K : Frag} {h : Heap} {f : Addr} {fd : FuncData} {o : Obj} (X : K.In h) (e : K.lookup f = some o) (ed : o.data = .func fd) (ec : codeIn K fd.code fd.qualname = true) (l : h.NoLimit) : FN h f fd := ⟨⟨o, X _ _ e, ed⟩, codeRec_of X ec, l⟩
theorem gv_at {K : Frag} {h : Heap} {mg mb : Str → Option Value} {q : Program} {loose : List Str} {x : Str} {v : Value} (X : K.In h) (T : TopRead q loose mg mb h) (e : nsIn K mainGlobals x = some (some v)) : GV h x v := ⟨mg, T.g, mg_of X T.g e⟩
theorem bv_at {K : Frag} {h : Heap} {mg mb : Str → Option Value} {q : Program} {loose : List Str} {x : Str} {v : Value} (X : K.In h) (T : TopRead q loose mg mb h) (e : nsIn K mainGlobals x = some none) (hv : bootBuiltins x = some v) (hn : x ≠ "__name__") : BV h x v :=
  ⟨mg, mb, T.g, mg_none_of X T.g e, T.b, (T.builtins x hn).trans hv⟩
theorem wld_of {p : Params} {h : Heap} {mg mb : Str → Option Value} {q : Program} {loose : List Str} (X : (KF p).In h) (T : TopRead q loose mg mb h) : Wld h where
  fn_wpieces_of := fn_at X rfl rfl rfl T.nolimit
  fn_wput := fn_at X rfl rfl rfl T.nolimit
  fn_wbody := fn_at X rfl rfl rfl T.nolimit
  fn_wlast := fn_at X rfl rfl rfl T.nolimit
  fn_wjoin := fn_at X rfl rfl rfl T.nolimit
  fn_wwithout := fn_at X rfl rfl rfl T.nolimit
  fn_wnext := fn_at X rfl rfl rfl T.nolimit
  fn_wpick := fn_at X rfl rfl rfl T.nolimit
  fn_witems := fn_at X rfl rfl rfl T.nolimit
  fn_wflat := fn_at X rfl rfl rfl T.nolimit
  fn_wtwo := fn_at X rfl rfl rfl T.nolimit
  fn_wjoined := fn_at X rfl rfl rfl T.nolimit
  fn_wkept := fn_at X rfl rfl rfl T.nolimit
  fn_wbehind := fn_at X rfl rfl rfl T.nolimit
  fn_wrun := fn_at X rfl rfl rfl T.nolimit
  fn_wjn := fn_at X rfl rfl rfl T.nolimit
  fn_wright := fn_at X rfl rfl rfl T.nolimit
  fn_wlaw := fn_at X rfl rfl rfl T.nolimit
  fn_finit := fn_at X rfl rfl rfl T.nolimit
  fn_fplain := fn_at X rfl rfl rfl T.nolimit
  fn_minit := fn_at X rfl rfl rfl T.nolimit
  fn_pinit := fn_at X rfl rfl rfl T.nolimit
  fn_pcode := fn_at X rfl rfl rfl T.nolimit
  fn_pparts := fn_at X rfl rfl rfl T.nolimit
  gv_wpieces_of := gv_at X T rfl
  gv_wput := gv_at X T rfl
  gv_wbody := gv_at X T rfl
  gv_wlast := gv_at X T rfl
  gv_wjoin := gv_at X T rfl
  gv_wwithout := gv_at X T rfl
  gv_wnext := gv_at X T rfl
  gv_wpick := gv_at X T rfl
  gv_witems := gv_at X T rfl
  gv_wflat := gv_at X T rfl
  gv_wtwo := gv_at X T rfl
  gv_wjoined := gv_at X T rfl
  gv_wkept := gv_at X T rfl
  gv_wbehind := gv_at X T rfl
  gv_wrun := gv_at X T rfl
  gv_wjn := gv_at X T rfl
  gv_wright := gv_at X T rfl
  gv_BLOCK := gv_at X T rfl
  gv_LOOP := gv_at X T rfl
  gv_IF := gv_at X T rfl
  gv_ELSE := gv_at X T rfl
  gv_END := gv_at X T rfl
  gv_DROP := gv_at X T rfl
  gv_LOCAL_GET := gv_at X T rfl
  gv_LOCAL_SET := gv_at X T rfl
  gv_LOCAL_TEE := gv_at X T rfl
  gv_Func := gv_at X T rfl
  gv_Module := gv_at X T rfl
  gv_Piece := gv_at X T rfl
  bv_len := bv_at X T rfl (by show bootBuiltins (Str.ofString "len") = _; boot_by_name) (by decide)
  bv_list := bv_at X T rfl (by show bootBuiltins (Str.ofString "list") = _; boot_by_name) (by decide)
  bv_tuple := bv_at X T rfl (by show bootBuiltins (Str.ofString "tuple") = _; boot_by_name) (by decide)
  bv_range := bv_at X T rfl (by show bootBuiltins (Str.ofString "range") = _; boot_by_name) (by decide)
  bv_int := bv_at X T rfl (by show bootBuiltins (Str.ofString "int") = _; boot_by_name) (by decide)
  bv_sum := bv_at X T rfl (by show bootBuiltins (Str.ofString "sum") = _; boot_by_name) (by decide)
theorem wob_of {p : Params} {h : Heap} (X : (KF p).In h) : Wob h (KF p) where
  kin := X
  P := rfl
  code := rfl
  parts := rfl
  F := rfl
  plain := rfl
  M := rfl
  dflt := ⟨_, _, X _ _ rfl, rfl⟩

theorem le63 {n : Nat} (h : ¬ ((63 : Nat) : Int) < (n : Int)) : n ≤ 63 := by omega
theorem law333 {p : Params} {h : Heap} {mg mb : Str → Option Value} {q : Program} {loose : List Str} (X : (KF p).In h) (T : TopRead q loose mg mb h) : mg (Str.ofString "law") = some (.ref 333) := mg_of X T.g rfl
end Mine
end
open PySem PySem.W PyProof.Rows PySem.Calls Mine
theorem PySem.Challenge.cw_nm0135_01_holds : PySem.Challenge.rw_nm0135_01.Holds := by
  refine holds_law okL fun said => ?_
  refine holds_open (q := vw) (loose := [Str.ofString "Piece"]) (Xt := Xt) (XP := XL vw []) (Yf := Hk.obs) (Ya := Hk.val) (YP := Hk.says) (N := 4246) left (Hook.of Hk) (Hook.keeps Hk) (fun s e => xl_of s (Bool.and_eq_true_iff.mp e).1) XL.keeps (by rfl) (by rfl) (by rfl) (fun s e => recFacts_of (Bool.and_eq_true_iff.mp e).2) (by rfl) said (by decide +kernel) ⟨rfl, rfl, rfl, rfl, rfl, by decide +kernel⟩ (by w_witness2) ?hc
  intro w s₀ s₁ mg mb G Y fa o pm cd doc dV kV ho hdd hcd hD hmg hg args vals as hpre hlay hrd hwl hlo
  have KX := kIn_of Y
  refine Ground.open G ?_
  intro T B D TE TW
  try (refine guard_noD D (by decide +kernel) ?_; clear D)
  wrow_args hpre hlay hrd hwl hlo
  all_goals (first | refine callC_kw (enter_call ?_) | refine enter_call ?_ | refine callC_kw (enter_callW ?_) | refine enter_callW ?_ | w_how)
  rename_i ss _ _ _ _ _ _ _ sc sv _ hL _ _ _ hI _ hlen _
  have TR := topRead_of T
  have W := Mine.wld_of KX TR
  have O := Mine.wob_of KX
  have e333 := Mine.law333 KX TR
  have efa : fa = 333 := Value.ref.inj (Option.some.inj (hmg.symm.trans e333))
  subst efa
  refine Mine.law_c (g := s₁.heap.get?) W O ⟨rfl, by decide, by decide⟩ ⟨fun _ _ e => e, fun _ _ e => e⟩ hL hI (Mine.le63 hlen) fun s' x => GoodW.toG ?_
  exact ⟨.inl ⟨.bool true, .bool true, [], rfl, fun _ => rfl, .bool _, by wrow_post, fun _ => ⟨List.nodup_nil, by simp⟩⟩, fun b o e => x.keeps b o e, x.os, x.gens.trans hg⟩
