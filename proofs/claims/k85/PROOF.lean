import PyProof.Rows.All
import Wide.All
import OpenK.AllK
import Wide.FinOn
import HandS.Base
import HandS.Call
import HandS.List
import HandS.Comp
import HandS.Ends
import HandS.Dict
import HandS.Iter
import HandS.Words
import HandS.WordsList
import HandS.Exc
import HandS.ExcOwn
import HandS.Wide
import HandS.IsInst
import HandS.Codes
import HandS.Style
import HandS.Property
import HandS.Defaults
import PySem.Challenge.RW_turnedpixels_k85_whole_canvases_by_pictu
import HandS.Walk
import HandS.TupLe
import KE.SortData
import HandS.TupSets
import HandS.SetBool
import HandS.Star
import HandS.HotCalls
import KE.GoesEnum
import OpenK.KOps
import HandS.ExcInit
import HandS.ExcField
import HandS.NestedK
import KE.KExcSuper
import KE.KSuper
import HandS.WordsExc
import PyProof.ListOps
import KE.KStateDown
import HandS.Head0
import HandS.Head1
import HandS.Head2
import HandS.HeadEnd
import HandS.HeadHook1
import HandS.HeadHook2
namespace TP
abbrev Px := Int × Int
/-- the nearest whole number of n / b -/
def near (n b : Int) : Int := (2 * n + b) / (2 * b)
theorem near_spec {n b : Int} (hb : 0 < b) : 2 * b * near n b ≤ 2 * n + b ∧ 2 * n + b < 2 * b * near n b + 2 * b := by
  unfold near
  have h1 := Int.mul_ediv_add_emod (2 * n + b) (2 * b)
  have h2 := Int.emod_nonneg (2 * n + b) (show 2 * b ≠ 0 by omega)
  have h3 := Int.emod_lt_of_pos (2 * n + b) (show 0 < 2 * b by omega)
  constructor <;> omega
theorem near_uniq {n b w : Int} (hb : 0 < b) (h1 : 2 * b * w ≤ 2 * n + b) (h2 : 2 * n + b < 2 * b * w + 2 * b) : near n b = w := by
  unfold near
  have e : 2 * n + b = (2 * n + b - 2 * b * w) + 2 * b * w := by omega
  rw [e, Int.add_mul_ediv_left _ _ (show 2 * b ≠ 0 by omega), Int.ediv_eq_zero_of_lt (by omega) (by omega)]
  omega
/-- q M + p N and p M - q N small: p M + q N is small, too (p = q + 1) -/
theorem cross {q M N : Int} (hq : 0 ≤ q) (hM : 0 ≤ M) (hN : 0 ≤ N) (h1 : q * M + (q + 1) * N ≤ (q + 1) * q) (h2 : (q + 1) * M - q * N ≤ (q + 1) * q) : (q + 1) * M + q * N ≤ (q + 1) * q := by
  have hqN : 0 ≤ q * N := Int.mul_nonneg hq hN
  have hqM : 0 ≤ q * M := Int.mul_nonneg hq hM
  have hM' : M ≤ q := by
    rcases Int.lt_or_le q M with c | c
    · exfalso
      obtain ⟨d, hd⟩ : ∃ d, M = q + 1 + d := ⟨M - (q + 1), by omega⟩
      have hd0 : 0 ≤ d := by omega
      have hqd : 0 ≤ q * d := Int.mul_nonneg hq hd0
      subst hd
      have e1 : q * (q + 1 + d) + (q + 1) * N = (q + 1) * q + q * d + q * N + N := by grind
      have hN0 : N = 0 := by omega
      subst hN0
      have hpd : 0 ≤ (q + 1) * d := Int.mul_nonneg (by omega) hd0
      have e2 : (q + 1) * (q + 1 + d) - q * 0 = (q + 1) * q + (q + 1) + (q + 1) * d := by grind
      omega
    · exact c
  have hs : M + N ≤ q := by
    rcases Int.lt_or_le q (M + N) with c | c
    · exfalso
      obtain ⟨d, hd⟩ : ∃ d, M + N = q + 1 + d := ⟨M + N - (q + 1), by omega⟩
      have hqd : 0 ≤ q * d := Int.mul_nonneg hq (by omega)
      have e1 : q * M + (q + 1) * N = (q + 1) * q + q * d + N := by
        have : M = q + 1 + d - N := by omega
        subst this
        grind
      omega
    · exact c
  have h3 : 0 ≤ (q + 1) * (q - (M + N)) := Int.mul_nonneg (by omega) (by omega)
  have e3 : (q + 1) * (q - (M + N)) = (q + 1) * q - ((q + 1) * M + q * N) - N := by grind
  omega
theorem rests {q m n : Int} (hq : 0 ≤ q) (h1 : -((q + 1) * q) ≤ (q + 1) * m - q * n) (h2 : (q + 1) * m - q * n ≤ (q + 1) * q) (h3 : -((q + 1) * q) ≤ q * m + (q + 1) * n) (h4 : q * m + (q + 1) * n ≤ (q + 1) * q) :
    (-((q + 1) * q) ≤ (q + 1) * m + q * n ∧ (q + 1) * m + q * n ≤ (q + 1) * q) ∧ (-((q + 1) * q) ≤ (q + 1) * n - q * m ∧ (q + 1) * n - q * m ≤ (q + 1) * q) := by
  have nn : ∀ a b : Int, 0 ≤ a → 0 ≤ b → 0 ≤ a * b := fun a b => Int.mul_nonneg
  have hp : (0 : Int) ≤ q + 1 := by omega
  rcases Int.le_total 0 m with hm | hm <;> rcases Int.le_total 0 n with hn | hn
  · have := cross hq hm hn h4 h2
    have a1 := nn _ _ hq hm; have a2 := nn _ _ hq hn; have a3 := nn _ _ hp hm; have a4 := nn _ _ hp hn
    omega
  · have := cross (M := -n) (N := m) hq (by omega) hm (by grind) (by grind)
    have e1 : (q + 1) * -n = -((q + 1) * n) := by grind
    have a1 := nn _ _ hq hm; have a2 := nn q (-n) hq (by omega); have a3 := nn _ _ hp hm; have a4 := nn (q + 1) (-n) hp (by omega)
    have e2 : q * -n = -(q * n) := by grind
    omega
  · have := cross (M := n) (N := -m) hq hn (by omega) (by grind) (by grind)
    have e1 : (q + 1) * -m = -((q + 1) * m) := by grind
    have a1 := nn q (-m) hq (by omega); have a2 := nn q n hq hn; have a3 := nn (q + 1) (-m) hp (by omega); have a4 := nn (q + 1) n hp hn
    have e2 : q * -m = -(q * m) := by grind
    omega
  · have := cross (M := -m) (N := -n) hq (by omega) (by omega) (by grind) (by grind)
    have e1 : (q + 1) * -m = -((q + 1) * m) := by grind
    have e3 : (q + 1) * -n = -((q + 1) * n) := by grind
    have a1 := nn q (-m) hq (by omega); have a2 := nn q (-n) hq (by omega); have a3 := nn (q + 1) (-m) hp (by omega); have a4 := nn (q + 1) (-n) hp (by omega)
    have e2 : q * -m = -(q * m) := by grind
    have e4 : q * -n = -(q * n) := by grind
    omega
/-- the image without quarters -/
def plainImg (p q : Int) (z : Px) : Px :=
  (near ((p * p - q * q) * z.1 - 2 * p * q * z.2) (p * p + q * q), near (2 * p * q * z.1 + (p * p - q * q) * z.2) (p * p + q * q))
theorem size_pos {p q : Int} (hp : 0 < p) : 0 < p * p + q * q := by
  have h1 : 0 < p * p := Int.mul_pos hp hp
  have h2 : 0 ≤ q * q := by
    rcases Int.le_total 0 q with h | h
    · exact Int.mul_nonneg h h
    · have := Int.mul_nonneg (show 0 ≤ -q by omega) (show 0 ≤ -q by omega)
      have e : -q * -q = q * q := by grind
      omega
  omega
theorem odd_size {p q : Int} (h : (p + q) % 2 = 1) : (p * p + q * q) % 2 = 1 := by
  have e : p * p + q * q = (p + q) * (p + q) - 2 * (p * q) := by grind
  have e2 : (p + q) * (p + q) = 2 * ((p + q) / 2 * ((p + q) + 1)) + 1 := by
    have h1 := Int.mul_ediv_add_emod (p + q) 2
    have h2 : p + q = 2 * ((p + q) / 2) + 1 := by omega
    generalize (p + q) / 2 = k at h2 ⊢
    rw [h2]
    grind
  omega
/-- no ties: rounded up or down, the rest is below one half -/
theorem near_odd {n c : Int} (hc : 0 < c) (ho : c % 2 = 1) : -(c - 1) ≤ 2 * (n - c * near n c) ∧ 2 * (n - c * near n c) ≤ c - 1 := by
  have h := near_spec (n := n) hc
  generalize near n c = w at h ⊢
  have e : 2 * c * w = 2 * (c * w) := by grind
  omega
theorem near_odd_uniq {n c w : Int} (hc : 0 < c) (ho : c % 2 = 1) (h1 : -(c - 1) ≤ 2 * (n - c * w)) (h2 : 2 * (n - c * w) ≤ c - 1) : near n c = w := by
  have e : 2 * c * w = 2 * (c * w) := by grind
  exact near_uniq hc (by omega) (by omega)
theorem near_neg {n c : Int} (hc : 0 < c) (ho : c % 2 = 1) : near (-n) c = -near n c := by
  have h := near_odd (n := n) hc ho
  have e : c * -near n c = -(c * near n c) := by grind
  exact near_odd_uniq hc ho (by omega) (by omega)
theorem plain_back_pos {q : Int} (hq : 0 ≤ q) (z : Px) : plainImg (q + 1) (-q) (plainImg (q + 1) q z) = z := by
  obtain ⟨x, y⟩ := z
  have hp : 0 < q + 1 := by omega
  have hc := size_pos (q := q) hp
  have ho : ((q + 1) * (q + 1) + q * q) % 2 = 1 := odd_size (by omega)
  have en : (q + 1) * (q + 1) + -q * -q = (q + 1) * (q + 1) + q * q := by grind
  have eh : (q + 1) * (q + 1) + q * q - 1 = 2 * ((q + 1) * q) := by grind
  have h1 := near_odd (n := ((q + 1) * (q + 1) - q * q) * x - 2 * (q + 1) * q * y) hc ho
  have h2 := near_odd (n := 2 * (q + 1) * q * x + ((q + 1) * (q + 1) - q * q) * y) hc ho
  show (near _ _, near _ _) = _
  rw [en]
  show (near (((q + 1) * (q + 1) - -q * -q) * near _ _ - 2 * (q + 1) * -q * near _ _) _, near (2 * (q + 1) * -q * near _ _ + ((q + 1) * (q + 1) - -q * -q) * near _ _) _) = _
  dsimp only at h1 h2 ⊢
  generalize near (((q + 1) * (q + 1) - q * q) * x - 2 * (q + 1) * q * y) ((q + 1) * (q + 1) + q * q) = w1 at h1 ⊢
  generalize near (2 * (q + 1) * q * x + ((q + 1) * (q + 1) - q * q) * y) ((q + 1) * (q + 1) + q * q) = w2 at h2 ⊢
  have r := rests (m := (q + 1) * x - q * y - (q + 1) * w1 - q * w2) (n := q * x + (q + 1) * y - (q + 1) * w2 + q * w1) hq
  have i1 : (q + 1) * ((q + 1) * x - q * y - (q + 1) * w1 - q * w2) - q * (q * x + (q + 1) * y - (q + 1) * w2 + q * w1) = ((q + 1) * (q + 1) - q * q) * x - 2 * (q + 1) * q * y - ((q + 1) * (q + 1) + q * q) * w1 := by grind
  have i2 : q * ((q + 1) * x - q * y - (q + 1) * w1 - q * w2) + (q + 1) * (q * x + (q + 1) * y - (q + 1) * w2 + q * w1) = 2 * (q + 1) * q * x + ((q + 1) * (q + 1) - q * q) * y - ((q + 1) * (q + 1) + q * q) * w2 := by grind
  have i3 : (q + 1) * ((q + 1) * x - q * y - (q + 1) * w1 - q * w2) + q * (q * x + (q + 1) * y - (q + 1) * w2 + q * w1) = -((((q + 1) * (q + 1) - -q * -q) * w1 - 2 * (q + 1) * -q * w2) - ((q + 1) * (q + 1) + q * q) * x) := by grind
  have i4 : (q + 1) * (q * x + (q + 1) * y - (q + 1) * w2 + q * w1) - q * ((q + 1) * x - q * y - (q + 1) * w1 - q * w2) = -((2 * (q + 1) * -q * w1 + ((q + 1) * (q + 1) - -q * -q) * w2) - ((q + 1) * (q + 1) + q * q) * y) := by grind
  rw [i1, i2, i3, i4] at r
  have r := r (by omega) (by omega) (by omega) (by omega)
  rw [near_odd_uniq hc ho (w := x) (by omega) (by omega), near_odd_uniq hc ho (w := y) (by omega) (by omega)]
theorem plain_conj {p q : Int} (hp : 0 < p) (ho : (p + q) % 2 = 1) (z : Px) : plainImg p (-q) z = ((plainImg p q (z.1, -z.2)).1, -(plainImg p q (z.1, -z.2)).2) := by
  obtain ⟨x, y⟩ := z
  have hc := size_pos (q := q) hp
  have hd := odd_size ho
  unfold plainImg
  dsimp only
  rw [show p * p + -q * -q = p * p + q * q by grind, ← near_neg hc hd]
  congr 2 <;> grind
theorem plain_back {p q : Int} (hk : p = q.natAbs + 1) (z : Px) : plainImg p (-q) (plainImg p q z) = z := by
  rcases Int.le_total 0 q with h | h
  · have e : p = q + 1 := by omega
    rw [e]
    exact plain_back_pos h z
  · obtain ⟨k, rfl⟩ : ∃ k, q = -k := ⟨-q, by omega⟩
    have e : p = k + 1 := by omega
    subst e
    have hk0 : 0 ≤ k := by omega
    have h1 := plain_conj (p := k + 1) (q := k) (by omega) (by omega) z
    have h2 := plain_conj (p := k + 1) (q := -k) (by omega) (by omega) (plainImg (k + 1) (-k) z)
    rw [h2, h1]
    dsimp only
    rw [Int.neg_neg]
    have h3 := plain_back_pos hk0 (z.1, -z.2)
    rw [h3]
    simp
/-! quarters -/
def rot : Nat → Px → Px
  | 0, z => z
  | n + 1, z => rot n (-z.2, z.1)
def quart (z : Px) (k : Int) : Px := rot (k % 4).toNat z
theorem rot_add (a b : Nat) (z : Px) : rot (a + b) z = rot b (rot a z) := by
  induction a generalizing z with
  | zero => simp [rot]
  | succ a ih => rw [show a + 1 + b = (a + b) + 1 by omega]; exact ih _
theorem rot4 (z : Px) : rot 4 z = z := by
  obtain ⟨x, y⟩ := z
  simp [rot]
theorem plain_rot1 {p q : Int} (hp : 0 < p) (ho : (p + q) % 2 = 1) (z : Px) : plainImg p q (-z.2, z.1) = (-(plainImg p q z).2, (plainImg p q z).1) := by
  obtain ⟨x, y⟩ := z
  have hc := size_pos (q := q) hp
  have hd := odd_size ho
  unfold plainImg
  dsimp only
  rw [← near_neg hc hd]
  congr 2 <;> grind
theorem plain_rot {p q : Int} (hp : 0 < p) (ho : (p + q) % 2 = 1) : ∀ (n : Nat) (z : Px), plainImg p q (rot n z) = rot n (plainImg p q z)
  | 0, z => rfl
  | n + 1, z => by
    show plainImg p q (rot n (-z.2, z.1)) = rot n (-(plainImg p q z).2, (plainImg p q z).1)
    rw [plain_rot hp ho n, plain_rot1 hp ho]
abbrev Tn := Int × Int × Int
def img (t : Tn) (z : Px) : Px := quart (plainImg t.1 t.2.1 z) t.2.2
def backT (t : Tn) : Tn := (t.1, -t.2.1, -t.2.2 % 4)
structure Good (t : Tn) : Prop where
  lo : -t.1 < t.2.1
  hi : t.2.1 < t.1
  most : t.1 ≤ 10 ^ 15
  k0 : 0 ≤ t.2.2
  k3 : t.2.2 ≤ 3
  odd : (t.1 + t.2.1) % 2 = 1
  one : Int.gcd t.1 t.2.1 = 1
def Keep (t : Tn) : Prop := t.1 = t.2.1.natAbs + 1
theorem Good.pos {t : Tn} (g : Good t) : 0 < t.1 := by have := g.lo; have := g.hi; omega
theorem Good.back {t : Tn} (g : Good t) : Good (backT t) := by
  obtain ⟨p, q, k⟩ := t
  obtain ⟨h1, h2, h3, h4, h5, h6, h7⟩ := g
  dsimp only at h1 h2 h3 h4 h5 h6 h7
  refine ⟨?_, ?_, h3, ?_, ?_, ?_, ?_⟩ <;> unfold backT <;> dsimp only
  · omega
  · omega
  · omega
  · omega
  · omega
  · rw [Int.gcd_neg]; exact h7
theorem Keep.back {t : Tn} (g : Keep t) : Keep (backT t) := by
  unfold Keep backT at *
  dsimp only
  rw [Int.natAbs_neg]
  exact g
theorem back_img {t : Tn} (g : Good t) (k : Keep t) (z : Px) : img (backT t) (img t z) = z := by
  have hp := g.pos
  obtain ⟨p, q, j⟩ := t
  have ho := g.odd
  have k0 := g.k0
  have k3 := g.k3
  dsimp only at hp ho k0 k3
  have k' : p = q.natAbs + 1 := k
  show quart (plainImg p (-q) (quart (plainImg p q z) j)) (-j % 4) = z
  unfold quart
  rw [plain_rot hp (by omega), plain_back k', ← rot_add]
  have e : (j % 4).toNat + (-j % 4 % 4).toNat = 0 ∨ (j % 4).toNat + (-j % 4 % 4).toNat = 4 := by omega
  rcases e with e | e
  · rw [e]; rfl
  · rw [e]; exact rot4 z
/-! ### pictures: strictly ascending lists -/
def ltP (a b : Px) : Prop := a.1 < b.1 ∨ (a.1 = b.1 ∧ a.2 < b.2)
instance (a b : Px) : Decidable (ltP a b) := by unfold ltP; exact inferInstance
def leP (a b : Px) : Prop := a = b ∨ ltP a b
theorem ltP_irrefl (a : Px) : ¬ ltP a a := by unfold ltP; omega
theorem ltP_trans {a b c : Px} (h : ltP a b) (h' : ltP b c) : ltP a c := by unfold ltP at *; omega
theorem ltP_tri (a b : Px) : ltP a b ∨ a = b ∨ ltP b a := by
  obtain ⟨x, y⟩ := a
  obtain ⟨u, v⟩ := b
  unfold ltP
  dsimp only
  rw [Prod.mk.injEq]
  omega
theorem ltP_asymm {a b : Px} (h : ltP a b) (h' : ltP b a) : False := ltP_irrefl a (ltP_trans h h')
abbrev Asc (l : List Px) : Prop := l.Pairwise ltP
theorem Asc.nodup {l : List Px} (h : Asc l) : l.Nodup := h.imp fun {a b} h e => by
  subst e
  exact ltP_irrefl a h
theorem asc_unique : ∀ {l l' : List Px}, Asc l → Asc l' → (∀ z, z ∈ l ↔ z ∈ l') → l = l'
  | [], [], _, _, _ => rfl
  | [], b :: l', _, _, h => absurd ((h b).mpr List.mem_cons_self) (by simp)
  | a :: l, [], _, _, h => absurd ((h a).mp List.mem_cons_self) (by simp)
  | a :: l, b :: l', h1, h2, h => by
    have h1' := List.pairwise_cons.mp h1
    have h2' := List.pairwise_cons.mp h2
    have e : a = b := by
      rcases List.mem_cons.mp ((h a).mp List.mem_cons_self) with c | c
      · exact c
      · rcases List.mem_cons.mp ((h b).mpr List.mem_cons_self) with c' | c'
        · exact c'.symm
        · exact (ltP_asymm (h2'.1 a c) (h1'.1 b c')).elim
    subst e
    rw [asc_unique h1'.2 h2'.2 fun z => ?_]
    constructor
    · intro hz
      rcases List.mem_cons.mp ((h z).mp (List.mem_cons_of_mem _ hz)) with c | c
      · exact (ltP_irrefl a (c ▸ h1'.1 z hz)).elim
      · exact c
    · intro hz
      rcases List.mem_cons.mp ((h z).mpr (List.mem_cons_of_mem _ hz)) with c | c
      · exact (ltP_irrefl a (c ▸ h2'.1 z hz)).elim
      · exact c
def ins (a : Px) : List Px → List Px
  | [] => [a]
  | b :: l => if ltP a b then a :: b :: l else if a = b then b :: l else b :: ins a l
theorem mem_ins {a z : Px} : ∀ {l : List Px}, z ∈ ins a l ↔ z = a ∨ z ∈ l
  | [] => by simp [ins]
  | b :: l => by
    unfold ins
    split
    · simp
    · split
      · rename_i h; subst h; simp
      · rw [List.mem_cons, mem_ins (l := l), List.mem_cons]
        constructor
        · rintro (h | h | h)
          · exact .inr (.inl h)
          · exact .inl h
          · exact .inr (.inr h)
        · rintro (h | h | h)
          · exact .inr (.inl h)
          · exact .inl h
          · exact .inr (.inr h)
theorem asc_ins {a : Px} : ∀ {l : List Px}, Asc l → Asc (ins a l)
  | [], _ => List.pairwise_singleton _ _
  | b :: l, h => by
    have h' := List.pairwise_cons.mp h
    unfold ins
    split
    · rename_i c
      exact List.pairwise_cons.mpr ⟨fun z hz => (List.mem_cons.mp hz).elim (fun e => e ▸ c) fun m => ltP_trans c (h'.1 z m), h⟩
    · split
      · exact h
      · rename_i c c'
        refine List.pairwise_cons.mpr ⟨fun z hz => ?_, asc_ins h'.2⟩
        rcases mem_ins.mp hz with e | m
        · subst e
          rcases ltP_tri z b with q | q | q
          · exact absurd q c
          · exact absurd q c'
          · exact q
        · exact h'.1 z m
/-- the ascending list of what is in a list -/
def canon (l : List Px) : List Px := l.foldr ins []
theorem mem_canon {z : Px} : ∀ {l : List Px}, z ∈ canon l ↔ z ∈ l
  | [] => Iff.rfl
  | a :: l => by
    show z ∈ ins a (canon l) ↔ _
    rw [mem_ins, mem_canon (l := l), List.mem_cons]
theorem asc_canon : ∀ l : List Px, Asc (canon l)
  | [] => List.Pairwise.nil
  | _ :: l => asc_ins (asc_canon l)
theorem canon_asc {l : List Px} (h : Asc l) : canon l = l := asc_unique (asc_canon l) h fun _ => mem_canon
theorem canon_eq {l l' : List Px} (h : ∀ z, z ∈ l ↔ z ∈ l') : canon l = canon l' := asc_unique (asc_canon l) (asc_canon l') fun z => mem_canon.trans ((h z).trans mem_canon.symm)
theorem canon_is {l l' : List Px} (h : Asc l') (m : ∀ z, z ∈ l' ↔ z ∈ l) : l' = canon l := asc_unique h (asc_canon l) fun z => (m z).trans mem_canon.symm
theorem len_same {l l' : List Px} (h : l.Nodup) (h' : l'.Nodup) (m : ∀ z, z ∈ l ↔ z ∈ l') : l.length = l'.length := ((List.perm_ext_iff_of_nodup h h').mpr m).length_eq
theorem canon_nodup {l : List Px} (h : l.Nodup) : (canon l).length = l.length := len_same (asc_canon l).nodup h fun _ => mem_canon
theorem canon_more (l : List Px) (g : Px) : (canon (l ++ [g])).length = (canon l).length + if g ∈ l then 0 else 1 := by
  split
  · rename_i h
    refine len_same (asc_canon _).nodup (asc_canon _).nodup fun z => ?_
    rw [mem_canon, mem_canon, List.mem_append, List.mem_singleton]
    exact ⟨fun q => q.elim id fun e => e ▸ h, .inl⟩
  · rename_i h
    have e : (canon l).length + 1 = (g :: canon l).length := rfl
    rw [e]
    refine len_same (asc_canon _).nodup (List.nodup_cons.mpr ⟨fun m => h (mem_canon.mp m), (asc_canon _).nodup⟩) fun z => ?_
    rw [mem_canon, List.mem_append, List.mem_singleton, List.mem_cons, mem_canon]
    exact ⟨fun q => q.elim .inr .inl, fun q => q.elim .inr .inl⟩
theorem ins_len (a : Px) : ∀ l : List Px, (ins a l).length ≤ l.length + 1
  | [] => Nat.le_refl _
  | b :: l => by
    unfold ins
    split
    · exact Nat.le_refl _
    · split
      · exact Nat.le_succ _
      · exact Nat.succ_le_succ (ins_len a l)
theorem canon_le : ∀ l : List Px, (canon l).length ≤ l.length
  | [] => Nat.le_refl _
  | a :: l => Nat.le_trans (ins_len a (canon l)) (Nat.succ_le_succ (canon_le l))
/-- an ascending rearrangement (equal ones side by side) of different pixels -/
theorem sorted_is {l l' : List Px} (p : l'.Perm l) (s : l'.Pairwise leP) (n : l.Nodup) : l' = canon l := by
  refine canon_is ?_ fun z => p.mem_iff
  have n' : l'.Nodup := p.nodup_iff.mpr n
  exact (s.and n').imp fun {a b} ⟨h1, h2⟩ => h1.elim (fun e => absurd e h2) id
theorem map_nodup {f g : Px → Px} {l : List Px} (h : l.Nodup) (gf : ∀ z ∈ l, g (f z) = z) : (l.map f).Nodup := by
  refine List.pairwise_map.mpr (h.imp_of_mem fun {a b} ha hb hne e => hne ?_)
  rw [← gf a ha, ← gf b hb, e]
/-- there and back -/
theorem canon_back {f g : Px → Px} {l : List Px} (h : Asc l) (gf : ∀ z ∈ l, g (f z) = z) : canon ((canon (l.map f)).map g) = l := by
  refine (canon_is h fun z => ?_).symm
  rw [List.mem_map]
  constructor
  · intro hz
    exact ⟨f z, mem_canon.mpr (List.mem_map_of_mem hz), gf z hz⟩
  · rintro ⟨w, hw, rfl⟩
    obtain ⟨z, hz, rfl⟩ := List.mem_map.mp (mem_canon.mp hw)
    rw [gf z hz]
    exact hz
/-! ### sizes -/
def Bd (n : Nat) (z : Px) : Prop := z.1.natAbs < 2 ^ n ∧ z.2.natAbs < 2 ^ n
theorem Bd.mono {n m : Nat} {z : Px} (h : Bd n z) (l : n ≤ m) : Bd m z := by
  have := Nat.pow_le_pow_right (show 0 < 2 by decide) l
  exact ⟨Nat.lt_of_lt_of_le h.1 this, Nat.lt_of_lt_of_le h.2 this⟩
theorem near_abs {n c : Int} {k : Nat} (hc : 0 < c) (h : n.natAbs ≤ c.natAbs * k) : (near n c).natAbs ≤ k + 1 := by
  have h1 := near_spec (n := n) hc
  generalize near n c = w at h1 ⊢
  have ec : (c.natAbs : Int) = c := by omega
  have hk : (n.natAbs : Int) ≤ c * k := by
    have : ((n.natAbs : Nat) : Int) ≤ ((c.natAbs * k : Nat) : Int) := Int.ofNat_le.mpr h
    rw [Int.natCast_mul, ec] at this
    exact this
  have h2 : n ≤ c * k := by omega
  have h3 : -(c * k) ≤ n := by omega
  have e1 : 2 * c * w = c * (2 * w) := by grind
  have u : ¬ ((k : Int) + 1 < w) := fun q => by
    have : c * (2 * (k + 2)) ≤ c * (2 * w) := Int.mul_le_mul_of_nonneg_left (by omega) (by omega)
    have e : c * (2 * ((k : Int) + 2)) = 2 * (c * k) + 4 * c := by grind
    omega
  have v : ¬ (w < -((k : Int) + 1)) := fun q => by
    have : c * (2 * w) ≤ c * (2 * (-(k + 2))) := Int.mul_le_mul_of_nonneg_left (by omega) (by omega)
    have e : c * (2 * (-((k : Int) + 2))) = -(2 * (c * k)) - 4 * c := by grind
    omega
  omega
theorem plain_bd {p q : Int} {n : Nat} {z : Px} (hp : 0 < p) (h : Bd n z) : Bd (n + 2) (plainImg p q z) := by
  obtain ⟨x, y⟩ := z
  obtain ⟨h1, h2⟩ := h
  dsimp only at h1 h2
  have hc := size_pos (q := q) hp
  have hpp : (0 : Int) ≤ p * p := Int.mul_nonneg (by omega) (by omega)
  have sq : ∀ a : Int, 0 ≤ a * a := fun a => by
    rcases Int.le_total 0 a with h | h
    · exact Int.mul_nonneg h h
    · have := Int.mul_nonneg (show 0 ≤ -a by omega) (show 0 ≤ -a by omega)
      have e : -a * -a = a * a := by grind
      omega
  have hqq : (0 : Int) ≤ q * q := sq q
  have ha : (p * p - q * q).natAbs ≤ (p * p + q * q).natAbs := by omega
  have hb : (2 * p * q).natAbs ≤ (p * p + q * q).natAbs := by
    have s1 := sq (p - q)
    have s2 := sq (p + q)
    have e1 : (p - q) * (p - q) = p * p + q * q - 2 * p * q := by grind
    have e2 : (p + q) * (p + q) = p * p + q * q + 2 * p * q := by grind
    omega
  have key : ∀ a b : Int, a.natAbs ≤ (p * p + q * q).natAbs → b.natAbs ≤ (p * p + q * q).natAbs → (a * x + b * y).natAbs ≤ (p * p + q * q).natAbs * (x.natAbs + y.natAbs) := fun a b q1 q2 => by
    refine Nat.le_trans (Int.natAbs_add_le _ _) ?_
    rw [Int.natAbs_mul, Int.natAbs_mul, Nat.mul_add]
    exact Nat.add_le_add (Nat.mul_le_mul_right _ q1) (Nat.mul_le_mul_right _ q2)
  have e0 : (p * p - q * q) * x - 2 * p * q * y = (p * p - q * q) * x + (-(2 * p * q)) * y := by grind
  have b1 := near_abs hc (key _ _ ha (show (-(2 * p * q)).natAbs ≤ _ by rw [Int.natAbs_neg]; exact hb))
  have b2 := near_abs hc (key _ _ hb ha)
  rw [← e0] at b1
  have hpw : (2 : Nat) ^ (n + 2) = 4 * 2 ^ n := by rw [Nat.pow_succ, Nat.pow_succ]; omega
  have pos : 0 < (2 : Nat) ^ n := Nat.pow_pos (by decide)
  constructor
  · show (near ((p * p - q * q) * x - 2 * p * q * y) (p * p + q * q)).natAbs < _
    omega
  · show (near (2 * p * q * x + (p * p - q * q) * y) (p * p + q * q)).natAbs < _
    omega
theorem rot_bd {m : Nat} : ∀ (n : Nat) {z : Px}, Bd m z → Bd m (rot n z)
  | 0, _, h => h
  | n + 1, z, h => rot_bd n ⟨by show (-z.2).natAbs < _; rw [Int.natAbs_neg]; exact h.2, h.1⟩
theorem img_bd {t : Tn} {n : Nat} {z : Px} (hp : 0 < t.1) (h : Bd n z) : Bd (n + 2) (img t z) := rot_bd _ (plain_bd hp h)
end TP


set_option Elab.async false
set_option linter.all false
set_option maxRecDepth 100000
set_option maxHeartbeats 4000000
namespace TP
open PySem PySem.Spec PyProof.Rows L2
open C8 (Cal pe_c)
/-! ### the text by places -/
def top (i : Nat) : Stmt := PySem.Challenge.pw_turnedpixels_k85_whole_canvases_by_pictu.main.body.getD i (.Pass ⟨0, 0, 0, 0⟩)
abbrev FnT (K : PySem.W.Frag) (x qual : Str) (st : Stmt) (f : Addr) (fd : FuncData) : Prop := FunD K x qual (defArgs st) (defBody st) (defScope st) [] [] f fd
/-- a def of the module as the top leaves it -/
structure Dm (K : PySem.W.Frag) (mg : Str → Option Value) (x : Str) (st : Stmt) : Prop where
  ex : ∃ f fd, FnT K x x st f fd ∧ mg x = some (.ref f)
section
variable {P : Program} {w : World} {K : PySem.W.Frag} {mg : Str → Option Value} {base : Heap}
theorem cal_of {x : Str} {st : Stmt} {N ps : List Str} {k : Nat} {sp : Sp} (D : Dm K mg x st) (S : FnScope N ps (defScope st))
    (b : ∀ (kV doc pm : Value) (an : Option Addr) (cdv ct : Value) (us : List Value), us.length = ps.length → bindArgs (PySem.W.fnOf x x (defArgs st) (defBody st) (defScope st) .none kV doc pm an cdv ct) ⟨us, []⟩ = pure (ps.zip us))
    (len : ∀ vs H Q E, sp vs H Q E → vs.length = ps.length)
    (body : ∀ (f : Addr) (cdv : Value) (A : Around) (outer : List Env) (s : Shared) (H : Hp) (vs : List V) (Q : VK) (E : XK), Room k (A.deeper (envOfC x (defScope st) s.heap.objs.size f cdv)) → sp vs H Q E →
      ∃ t, PSs (cxOf CX0 P w K mg base N x (defScope st) f cdv A outer s H E).nox (defBody st) t ∧ t { nx := fun _ H' => Q .non H', rt := Q } (start N vs) H) : Cal P w K mg base (k + 1) x sp [] := by
  obtain ⟨f, fd, F, g⟩ := D.ex
  refine ⟨f, fd, ps, [], F.ok S len (fun cdv A outer s H vs Q E hr h => ?_), g, F.kp, F.bindsN b, .nil⟩
  obtain ⟨t, h1, h2⟩ := body f cdv A outer s H vs Q E hr h
  exact ⟨t, h1.nox, h2⟩
end
/-! ### heaps that only grow; tuples that stay -/
theorem sm_new {H : Hp} {p : Addr} {o : HO} (h : H p = none) : Same H (upd H p o) := fun b u e => by
  rw [upd_ne (ne_of_none e h)]
  exact e
theorem sm_mut {H H' : Hp} {p : Addr} {o : HO} (e : Same H H') (h : H p = none) : Same H (upd H' p o) := fun b u hb => by
  rw [upd_ne (ne_of_none hb h)]
  exact e b u hb
def TSm (H H' : Hp) : Prop := ∀ b xs, H b = some (.tup xs) → H' b = some (.tup xs)
theorem TSm.refl (H : Hp) : TSm H H := fun _ _ h => h
theorem TSm.trans {H H1 H2 : Hp} (a : TSm H H1) (b : TSm H1 H2) : TSm H H2 := fun c xs h => b c xs (a c xs h)
theorem sm_t {H H' : Hp} (e : Same H H') : TSm H H' := fun b xs h => e b _ h
theorem TSm.lst {H : Hp} {D : Addr} {xs : List V} {o : HO} (h : H D = some (.lst xs)) : TSm H (upd H D o) := fun b ys e => by
  rw [upd_ne (ne_of e h (by intro z; cases z))]
  exact e
/-- what is said of a value by tuples and plain values alone -/
def Tpl {α : Type} (R : Hp → V → α → Prop) : Prop := ∀ H H' v d, TSm H H' → R H v d → R H' v d
def IsP (H : Hp) (v : V) (z : Px) : Prop := ∃ a, v = .ref a ∧ H a = some (.tup [.int z.1, .int z.2])
def IsTn (H : Hp) (v : V) (t : Tn) : Prop := ∃ a, v = .ref a ∧ H a = some (.tup [.int t.1, .int t.2.1, .int t.2.2])
def IsI (_ : Hp) (v : V) (i : Int) : Prop := v = .int i
def IsB (_ : Hp) (v : V) (b : Bool) : Prop := v = .bl b
theorem tpl_P : Tpl IsP := fun _ _ _ _ e ⟨a, h1, h2⟩ => ⟨a, h1, e _ _ h2⟩
theorem tpl_T : Tpl IsTn := fun _ _ _ _ e ⟨a, h1, h2⟩ => ⟨a, h1, e _ _ h2⟩
theorem tpl_I : Tpl IsI := fun _ _ _ _ _ h => h
theorem tpl_B : Tpl IsB := fun _ _ _ _ _ h => h
theorem Paired.imp {α β : Type} {F G : α → β → Prop} (f : ∀ a b, F a b → G a b) : ∀ {l : List α} {l' : List β}, Paired F l l' → Paired G l l'
  | _, _, .nil => .nil
  | _, _, .cons h t => .cons (f _ _ h) (Paired.imp f t)
theorem Paired.at {α β : Type} {F : α → β → Prop} : ∀ {l : List α} {l' : List β} {i : Nat} {x : α}, Paired F l l' → l[i]? = some x → ∃ y, l'[i]? = some y ∧ F x y
  | _, _, _, _, .nil, e => by simp at e
  | _, _, 0, _, .cons h _, e => by simp at e; subst e; exact ⟨_, rfl, h⟩
  | _, _, i + 1, _, .cons _ t, e => by
    obtain ⟨y, h1, h2⟩ := Paired.at (i := i) t (by simpa using e)
    exact ⟨y, by simpa using h1, h2⟩
theorem Paired.more {α β : Type} {F : α → β → Prop} : ∀ {l : List α} {l' : List β} {a : α} {b : β}, Paired F l l' → F a b → Paired F (l ++ [a]) (l' ++ [b])
  | _, _, _, _, .nil, h => .cons h .nil
  | _, _, _, _, .cons h t, h' => .cons h (Paired.more t h')
/-- a list at an address whose items are told by R -/
def IsL {α : Type} (R : Hp → V → α → Prop) (H : Hp) (v : V) (ds : List α) : Prop := ∃ a xs, v = .ref a ∧ H a = some (.lst xs) ∧ Paired (R H) xs ds
abbrev Pic := IsL IsP
abbrev Way := IsL IsTn
theorem IsL.same {α : Type} {R : Hp → V → α → Prop} (m : Tpl R) {H H' : Hp} {v : V} {ds : List α} (e : Same H H') (h : IsL R H v ds) : IsL R H' v ds := by
  obtain ⟨a, xs, h1, h2, h3⟩ := h
  exact ⟨a, xs, h1, e _ _ h2, Paired.imp (fun x d q => m _ _ x d (sm_t e) q) h3⟩
theorem Pic.same {H H' : Hp} {v : V} {ps : List Px} (e : Same H H') (h : Pic H v ps) : Pic H' v ps := IsL.same tpl_P e h
theorem Way.same {H H' : Hp} {v : V} {ps : List Tn} (e : Same H H') (h : Way H v ps) : Way H' v ps := IsL.same tpl_T e h
theorem IsP.same {H H' : Hp} {v : V} {z : Px} (e : Same H H') (h : IsP H v z) : IsP H' v z := tpl_P _ _ _ _ (sm_t e) h
theorem IsTn.same {H H' : Hp} {v : V} {z : Tn} (e : Same H H') (h : IsTn H v z) : IsTn H' v z := tpl_T _ _ _ _ (sm_t e) h
theorem take_snoc {α : Type} {l : List α} {i : Nat} {x : α} (h : l[i]? = some x) : l.take (i + 1) = l.take i ++ [x] := by
  rw [List.take_succ, h]
  rfl
theorem small_lt {n : Nat} (h : n ≤ 1000) : n < sizeLine := Nat.lt_of_le_of_lt h (by decide)
theorem small_le {n : Nat} (h : n ≤ 1000) : n ≤ sizeLine := Nat.le_of_lt (small_lt h)
theorem wipe1 (σ : L2.St) (i : Nat) (x : V) : wipe ((wipe σ [i]).set i (some x)) [i] = wipe σ [i] := by
  simp [wipe, List.set_set]
theorem yes_ {σ : L2.St} {H : Hp} {k : Bool → Hp → Prop} (h : k true H) : tYes σ H k := h
/-- a comprehension that makes of each item of a list one value -/
theorem lc_mapL {K : PySem.W.Frag} {α β : Type} {R : Hp → V → α → Prop} {R' : Hp → V → β → Prop} (m : Tpl R) (m' : Tpl R') (f : α → β) {a : Addr} {xs : List V} {ds : List α} {i0 : Nat} {te : TE} {σ : L2.St} {H1 : Hp} {D : Addr} {Qd : Hp → Prop} (hD : H1 D = none)
    (ha : H1 a = some (.lst xs)) (hp : Paired (R H1) xs ds) (hn : xs.length ≤ 1000)
    (step : ∀ (i : Nat) (x : V) (d : α) (H : Hp) (Q : VK), ds[i]? = some d → Same H1 H → R H x d → (∀ y H', Same H H' → R' H' y (f d) → Q y H') → te ((wipe σ [i0]).set i0 (some x)) H Q)
    (fin : ∀ H, Same H1 H → IsL R' H (.ref D) (ds.map f) → Qd H) :
    ∃ W : Nat → Nat → Hp → Prop, (∃ m, W 0 m (upd H1 D (.lst []))) ∧ ∀ i m H, W i m H →
      ((Itl K a).stop i H ∧ Qd H) ∨ ((Itl K a).go i H ∧ ∃ Nx : Hp → Prop, (∀ H', Nx H' → ∃ m', m' < m ∧ W (i + 1) m' H') ∧ ∀ x H', (Itl K a).yld i H x H' → gName i0 x (wipe σ [i0]) H' fun σ2 H2 => wipe σ2 [i0] = wipe σ [i0] ∧ tYes σ2 H2 fun b H3 =>
        if b = true then te σ2 H3 fun y H4 => ∃ acc, H4 D = some (.lst acc) ∧ acc.length < sizeLine ∧ Nx (upd H4 D (.lst (acc ++ [y]))) else Nx H3) := by
  refine lc_list (K := K) (a := a) (xs := xs) (fun i H => Same H1 H ∧ ∃ acc, H D = some (.lst acc) ∧ Paired (R' H) acc ((ds.take i).map f)) ⟨sm_new hD, [], upd_same, .nil⟩
    (fun i H _ ⟨e, _⟩ => .of (e _ _ ha)) ?_ ?_
  · rintro i x H hx ⟨e, acc, hacc, hpa⟩
    obtain ⟨d, hd, hr⟩ := Paired.at hp hx
    refine ⟨wipe1 σ i0 x, ?_⟩
    refine yes_ ?_
    rw [if_pos rfl]
    refine step i x d H _ hd e (m _ _ _ _ (sm_t e) hr) fun y H' e' hy => ⟨acc, e' _ _ hacc, ?_, ?_, acc ++ [y], upd_same, ?_⟩
    · have h1 := hpa.length
      have h2 := (List.getElem?_eq_some_iff.mp hx).1
      rw [h1, List.length_map, List.length_take]
      refine small_lt ?_
      omega
    · exact sm_mut (e.trans e') hD
    · rw [take_snoc hd, List.map_append]
      have t1 : TSm H' (upd H' D (.lst (acc ++ [y]))) := TSm.lst (e' _ _ hacc)
      exact Paired.more (Paired.imp (fun x d q => m' _ _ x d ((sm_t e').trans t1) q) hpa) (m' _ _ _ _ t1 hy)
  · rintro H ⟨e, acc, hacc, hpa⟩
    rw [hp.length, List.take_length] at hpa
    exact fin H e ⟨D, acc, rfl, hacc, hpa⟩
/-- .. of a tuple -/
theorem lc_mapU {K : PySem.W.Frag} {α β : Type} {R : Hp → V → α → Prop} {R' : Hp → V → β → Prop} (m : Tpl R) (m' : Tpl R') (f : α → β) {a : Addr} {xs : List V} {ds : List α} {i0 : Nat} {te : TE} {σ : L2.St} {H1 : Hp} {D : Addr} {Qd : Hp → Prop} (hD : H1 D = none)
    (ha : H1 a = some (.tup xs)) (hp : Paired (R H1) xs ds) (hn : xs.length ≤ 1000)
    (step : ∀ (i : Nat) (x : V) (d : α) (H : Hp) (Q : VK), ds[i]? = some d → Same H1 H → R H x d → (∀ y H', Same H H' → R' H' y (f d) → Q y H') → te ((wipe σ [i0]).set i0 (some x)) H Q)
    (fin : ∀ H, Same H1 H → IsL R' H (.ref D) (ds.map f) → Qd H) :
    ∃ W : Nat → Nat → Hp → Prop, (∃ m, W 0 m (upd H1 D (.lst []))) ∧ ∀ i m H, W i m H →
      ((Itt K a).stop i H ∧ Qd H) ∨ ((Itt K a).go i H ∧ ∃ Nx : Hp → Prop, (∀ H', Nx H' → ∃ m', m' < m ∧ W (i + 1) m' H') ∧ ∀ x H', (Itt K a).yld i H x H' → gName i0 x (wipe σ [i0]) H' fun σ2 H2 => wipe σ2 [i0] = wipe σ [i0] ∧ tYes σ2 H2 fun b H3 =>
        if b = true then te σ2 H3 fun y H4 => ∃ acc, H4 D = some (.lst acc) ∧ acc.length < sizeLine ∧ Nx (upd H4 D (.lst (acc ++ [y]))) else Nx H3) := by
  refine lc_tup (K := K) (a := a) (xs := xs) (fun i H => Same H1 H ∧ ∃ acc, H D = some (.lst acc) ∧ Paired (R' H) acc ((ds.take i).map f)) ⟨sm_new hD, [], upd_same, .nil⟩
    (fun i H _ ⟨e, _⟩ => .of (e _ _ ha)) ?_ ?_
  · rintro i x H hx ⟨e, acc, hacc, hpa⟩
    obtain ⟨d, hd, hr⟩ := Paired.at hp hx
    refine ⟨wipe1 σ i0 x, ?_⟩
    refine yes_ ?_
    rw [if_pos rfl]
    refine step i x d H _ hd e (m _ _ _ _ (sm_t e) hr) fun y H' e' hy => ⟨acc, e' _ _ hacc, ?_, ?_, acc ++ [y], upd_same, ?_⟩
    · have h1 := hpa.length
      have h2 := (List.getElem?_eq_some_iff.mp hx).1
      rw [h1, List.length_map, List.length_take]
      refine small_lt ?_
      omega
    · exact sm_mut (e.trans e') hD
    · rw [take_snoc hd, List.map_append]
      have t1 : TSm H' (upd H' D (.lst (acc ++ [y]))) := TSm.lst (e' _ _ hacc)
      exact Paired.more (Paired.imp (fun x d q => m' _ _ x d ((sm_t e').trans t1) q) hpa) (m' _ _ _ _ t1 hy)
  · rintro H ⟨e, acc, hacc, hpa⟩
    rw [hp.length, List.take_length] at hpa
    exact fin H e ⟨D, acc, rfl, hacc, hpa⟩
/-! ### what is free of the module's own names -/
structure Fre (mg : Str → Option Value) : Prop where
  mostP : ∃ u, mg "MOST_P" = some u ∧ RelV (.int (10 ^ 15)) u
  mostPixels : ∃ u, mg "MOST_PIXELS" = some u ∧ RelV (.int 400) u
  mostItems : ∃ u, mg "MOST_ITEMS" = some u ∧ RelV (.int 120) u
  isi : mg "isinstance" = none
  int : mg "int" = none
  bool : mg "bool" = none
  tup : mg "tuple" = none
  lst : mg "list" = none
  set : mg "set" = none
  str : mg "str" = none
  len : mg "len" = none
  all : mg "all" = none
  abs : mg "abs" = none
  rng : mg "range" = none
  enu : mg "enumerate" = none
  zip : mg "zip" = none
  srt : mg "sorted" = none
  max : mg "max" = none
  min : mg "min" = none
/-! ### the first defs -/
section
variable {P : Program} {w : World} {K : PySem.W.Frag} {mg : Str → Option Value} {base : Heap}
def s_is_integer : Sp := fun vs H Q _ => ∃ i, vs = [.int i] ∧ Q (.bl true) H
theorem sc12 : FnScope ["value"] ["value"] (defScope (top 12)) := ⟨rfl, rfl, rfl, by decide +kernel, rfl, by decide +kernel, by decide +kernel⟩
theorem c_is_integer (D : Dm K mg "is_integer" (top 12)) (T : Fre mg) : Cal P w K mg base 1 "is_integer" s_is_integer [] := by
  refine cal_of D sc12 (fun _ _ _ _ _ _ us hl => match us, hl with | [_], _ => rfl) (fun vs H Q E h => ?_) (fun f cdv A outer s H vs Q E hr h => ?_)
  · obtain ⟨i, rfl, _⟩ := h
    rfl
  · obtain ⟨i, rfl, k⟩ := h
    refine ⟨_, pss_one (ps_ret (pe_and (pe_callB call_isi (by rfl) T.isi boot_isinstance (pa_cons (pv 0) (pa_cons (pe_bltn (v := .ty "int") (u := .type "int") (by rfl) T.int PyProof.Rows.boot_int rfl) pa_nil)))
      (pe_one (pe_not (pe_callB call_isi (by rfl) T.isi boot_isinstance (pa_cons (pv 0) (pa_cons (pe_bltn (v := .ty "bool") (u := .type "bool") (by rfl) T.bool (by decide +kernel) rfl) pa_nil))))))), ?_⟩
    refine ⟨_, rfl, _, _, _, _, true, rfl, .ty _, .base (.int i), kit_ty (by decide +kernel), true, rfl, ?_⟩
    refine iteT ?_
    exact ⟨_, rfl, _, _, _, _, false, rfl, .ty _, .base (.int i), kit_ty (by decide +kernel), false, rfl, k⟩
end
end TP


set_option Elab.async false
set_option linter.all false
set_option maxRecDepth 100000
set_option maxHeartbeats 4000000
namespace TP
open PySem PySem.Spec PyProof.Rows L2
open C8 (Cal pe_c pe_gc)
section
variable {P : Program} {w : World} {K : PySem.W.Frag} {mg : Str → Option Value} {base : Heap}


/-- an if whose test is known -/
theorem ifD {p A B : Prop} [Decidable p] (hp : p) (h : A) : if decide p = true then A else B := by
  rw [if_pos (decide_eq_true hp)]
  exact h
theorem ifN {p A B : Prop} [Decidable p] (hp : ¬ p) (h : B) : if decide p = true then A else B := by
  rw [if_neg (by rw [decide_eq_false hp]; exact Bool.false_ne_true)]
  exact h
theorem ifB {b : Bool} {A B : Prop} (hb : b = true) (h : A) : if b = true then A else B := by
  rw [if_pos hb]
  exact h
theorem ifC {b : Bool} {A B : Prop} (hb : b = false) (h : B) : if b = true then A else B := by
  rw [hb, if_neg Bool.false_ne_true]
  exact h
theorem bools_of {H : Hp} : ∀ {xs : List V} {bs : List Bool}, Paired (IsB H) xs bs → xs = bs.map V.bl
  | _, _, .nil => rfl
  | _, _, .cons h t => by rw [bools_of t, show _ = _ from h]; rfl
theorem ints_paired {H : Hp} : ∀ ns : List Int, Paired (IsI H) (ns.map V.int) ns
  | [] => .nil
  | _ :: ns => .cons rfl (ints_paired ns)
theorem all_yes {α : Type} : ∀ ds : List α, (ds.map fun _ => true).all id = true
  | [] => rfl
  | _ :: ds => by show (true && (ds.map fun _ => true).all id) = true; rw [all_yes ds]; rfl

def s_are_integers : Sp := fun vs H Q _ => ∃ (a : Addr) (ns : List Int) (m : Int), vs = [.ref a, .int m] ∧ H a = some (.tup (ns.map V.int)) ∧ m = ns.length ∧ ns.length ≤ 1000 ∧ ∀ H', Same H H' → Q (.bl true) H'
theorem sc_are_integers : FnScope ["value", "many", "one"] ["value", "many"] (defScope (top 13)) := ⟨rfl, rfl, rfl, by decide +kernel, rfl, by decide +kernel, by decide +kernel⟩
theorem c_are_integers (D : Dm K mg "are_integers" (top 13)) (T : Fre mg) (h_is_integer : Cal P w K mg base 1 "is_integer" s_is_integer [])  : Cal P w K mg base 2 "are_integers" s_are_integers [] := by
  refine cal_of D sc_are_integers (fun _ _ _ _ _ _ us hl => match us, hl with | [_, _], _ => rfl) (fun vs H Q E h => ?_) (fun f cdv A outer s H vs Q E hr h => ?_)
  · obtain ⟨_, _, _, rfl, _⟩ := h
    rfl
  · obtain ⟨a, ns, m, rfl, ha, hm, hn, k⟩ := h
    refine ⟨_, (pss_one (ps_ret (pe_and (pe_callB call_isi (by rfl) T.isi boot_isinstance (pa_cons (pv 0) (pa_cons (pe_bltn (v := .ty "tuple") (u := .type "tuple") (by rfl) T.tup (by decide +kernel) rfl) pa_nil))) (pe_and (pe_cmpR op_eq (pe_callB call_len_seq (by rfl) T.len PySem.boot_len (pa_cons (pv 0) pa_nil)) (pv 1) (nomark _)) (pe_one (pe_callB (cr_all rfl) (by rfl) T.all (by decide +kernel) (pa_cons (pe_lc (own := [("one", 2)]) (g := gName 2) (tt := tYes) (by rfl) sc_are_integers.nd (pi_tup (pv 0)) (blkOk_by (own := [("one", 2)]) (N := ["value", "many", "one"]) (sc := (defScope (top 13))) (by decide +kernel)) (fun _ _ _ _ _ => pg_name (i := 2) sc_are_integers.nd rfl (Or.inl rfl)) (fun _ _ _ _ _ => pts_nil) (fun _ _ _ _ _ => (pe_c h_is_integer hr (by decide) (by rfl) (pa_cons (pv 2) pa_nil)))) pa_nil))))))), ?_⟩
    refine ⟨_, rfl, _, _, _, _, true, rfl, .ty _, .base (.tup ha), kit_ty (by decide +kernel), true, rfl, ?_⟩
    refine iteT ?_
    refine ⟨_, rfl, _, _, rfl, .inr (SqT.of ha), _, rfl, rfl, _, rfl, ?_⟩
    refine ifD (by rw [hm, List.length_map]) ?_
    refine ⟨_, rfl, a, rfl, ⟨_, SqT.of ha⟩, fun D hD => lc_mapU (R := IsI) (R' := IsB) tpl_I tpl_B (fun _ => true) hD ha (ints_paired ns) (by rw [List.length_map]; exact hn) (fun i x d H1 Q1 _ e hx q => ?_) fun H1 e hL => ?_⟩
    · obtain rfl : x = .int d := hx
      exact ⟨_, rfl, d, rfl, q _ _ (Same.refl _) rfl⟩
    · obtain ⟨p, xs, e1, e2, e3⟩ := hL
      cases e1
      refine ⟨D, ns.map fun _ => true, rfl, SqL.of (by rw [e2, bools_of e3]), ?_⟩
      rw [all_yes]
      exact k H1 e

def s_is_pixel : Sp := fun vs H Q _ => ∃ (v : V) (z : Px), vs = [v] ∧ IsP H v z ∧ ∀ H', Same H H' → Q (.bl true) H'
theorem sc_is_pixel : FnScope ["value"] ["value"] (defScope (top 15)) := ⟨rfl, rfl, rfl, by decide +kernel, rfl, by decide +kernel, by decide +kernel⟩
theorem c_is_pixel (D : Dm K mg "is_pixel" (top 15)) (T : Fre mg) (h_are_integers : Cal P w K mg base 2 "are_integers" s_are_integers [])  : Cal P w K mg base 3 "is_pixel" s_is_pixel [] := by
  refine cal_of D sc_is_pixel (fun _ _ _ _ _ _ us hl => match us, hl with | [_], _ => rfl) (fun vs H Q E h => ?_) (fun f cdv A outer s H vs Q E hr h => ?_)
  · obtain ⟨_, _, rfl, _⟩ := h
    rfl
  · obtain ⟨v, z, rfl, ⟨a, rfl, ha⟩, k⟩ := h
    refine ⟨_, (pss_one (ps_ret (pe_c h_are_integers hr (by decide) (by rfl) (pa_cons (pv 0) (pa_cons pe_int pa_nil))))), ?_⟩
    exact ⟨_, rfl, a, [z.1, z.2], 2, rfl, ha, rfl, (by show 2 ≤ 1000; decide), k⟩


theorem gcd_step {x y a b : Int} (hx : 0 ≤ x) (hy : 0 < y) (h : Int.gcd x y = Int.gcd a b) : Int.gcd y (x % y) = Int.gcd a b := by
  obtain ⟨m, rfl⟩ := Int.eq_ofNat_of_zero_le hx
  obtain ⟨n, rfl⟩ := Int.eq_ofNat_of_zero_le (Int.le_of_lt hy)
  rw [← h, ← Int.natCast_emod, Int.gcd_natCast_natCast, Int.gcd_natCast_natCast, Nat.gcd_comm m n, Nat.gcd_rec n m, Nat.gcd_comm]


theorem abs_if (i : Int) : (if i < 0 then -i else i) = (i.natAbs : Int) := by
  split <;> omega
def muY : L2.St → Hp → Nat := fun σ _ => match σ with
  | [_, some (.int y)] => y.toNat
  | _ => 0

def s_common : Sp := fun vs H Q _ => ∃ a b : Int, vs = [.int a, .int b] ∧ Q (.int (Int.gcd a b : Nat)) H
theorem sc_common : FnScope ["one", "other"] ["one", "other"] (defScope (top 14)) := ⟨rfl, rfl, rfl, by decide +kernel, rfl, by decide +kernel, by decide +kernel⟩
theorem c_common (D : Dm K mg "common" (top 14)) (T : Fre mg)   : Cal P w K mg base 1 "common" s_common [] := by
  refine cal_of D sc_common (fun _ _ _ _ _ _ us hl => match us, hl with | [_, _], _ => rfl) (fun vs H Q E h => ?_) (fun f cdv A outer s H vs Q E hr h => ?_)
  · obtain ⟨_, _, rfl, _⟩ := h
    rfl
  · obtain ⟨a, b, rfl, k⟩ := h
    refine ⟨_, (pss_cons (ps_par (i := 0) (j := 1) (by rfl) sc_common.nd rfl rfl (by decide) rfl rfl (pa_cons (pe_callB call_abs (by rfl) T.abs (by decide +kernel) (pa_cons (pv 0) pa_nil)) (pa_cons (pe_callB call_abs (by rfl) T.abs (by decide +kernel) (pa_cons (pv 1) pa_nil)) pa_nil)) (by rfl)) (pss_cons (ps_while PassesOwn.never (pt_cmpR op_gt (pv 1) pe_int (nomark _)) (pss_one (ps_par (i := 0) (j := 1) (by rfl) sc_common.nd rfl rfl (by decide) rfl rfl (pa_cons (pv 1) (pa_cons (pe_op op_mod (pv 0) (pv 1)) pa_nil)) (by rfl)))) (pss_one (ps_ret (pv 0))))), ?_⟩
    refine ⟨_, rfl, a, rfl, _, rfl, b, rfl, _, _, rfl, ?_⟩
    rw [abs_if, abs_if]
    refine while_by (fun σ H' => ∃ x y : Int, σ = [some (.int x), some (.int y)] ∧ H' = H ∧ 0 ≤ x ∧ 0 ≤ y ∧ Int.gcd x y = Int.gcd a b) muY ⟨_, _, rfl, rfl, Int.natCast_nonneg _, Int.natCast_nonneg _, by rw [Int.gcd_natCast_natCast]; rfl⟩ ?_ ?_
    · rintro σ H' ⟨x, y, rfl, rfl, hx, hy, hg⟩
      refine ⟨_, rfl, _, _, rfl, rfl, _, rfl, ?_⟩
      refine ite2 (fun hc => ?_) (fun hc => ?_)
      · have hc : 0 < y := of_decide_eq_true hc
        refine ⟨_, rfl, _, rfl, _, rfl, _, _, rfl, rfl, hc, _, _, rfl, ⟨_, _, rfl, rfl, hy, Int.emod_nonneg _ (by omega), gcd_step hx hc hg⟩, ?_⟩
        show (x % y).toNat < y.toNat
        have := Int.emod_lt_of_pos x hc
        omega
      · have hc : ¬ 0 < y := fun z => hc (decide_eq_true z)
        have e : y = 0 := by omega
        subst e
        refine ⟨_, rfl, ?_⟩
        have e2 : x = ((Int.gcd a b : Nat) : Int) := by
          rw [← hg, Int.gcd_zero_right]
          omega
        rw [e2]
        exact k
    · intro σ H Q1 Q2 hq hc
      obtain ⟨v, h1, i, j, h2, h3, c, h4, h5⟩ := hc
      exact ⟨v, h1, i, j, h2, h3, c, h4, hq _ _ h5⟩


theorem qB {Q : VK} {b : Bool} {H : Hp} (e : b = true) (h : Q (.bl true) H) : Q (.bl b) H := by
  rw [e]
  exact h
theorem p50 {t : Tn} (g : Good t) : t.1.natAbs < 2 ^ 50 ∧ t.2.1.natAbs < 2 ^ 50 := by
  have h1 := g.lo
  have h2 := g.hi
  have h3 := g.most
  have e : (10 : Int) ^ 15 < 2 ^ 50 := by decide
  have e2 : ((2 : Int) ^ 50) = ((2 ^ 50 : Nat) : Int) := by decide
  omega

def s_is_turn : Sp := fun vs H Q _ => ∃ (v : V) (t : Tn), vs = [v] ∧ IsTn H v t ∧ Good t ∧ ∀ H', Same H H' → Q (.bl true) H'
theorem sc_is_turn : FnScope ["value", "p", "q", "quarters"] ["value"] (defScope (top 16)) := ⟨rfl, rfl, rfl, by decide +kernel, rfl, by decide +kernel, by decide +kernel⟩
theorem c_is_turn (D : Dm K mg "is_turn" (top 16)) (T : Fre mg) (h_common : Cal P w K mg base 1 "common" s_common []) (h_are_integers : Cal P w K mg base 2 "are_integers" s_are_integers [])  : Cal P w K mg base 3 "is_turn" s_is_turn [] := by
  refine cal_of D sc_is_turn (fun _ _ _ _ _ _ us hl => match us, hl with | [_], _ => rfl) (fun vs H Q E h => ?_) (fun f cdv A outer s H vs Q E hr h => ?_)
  · obtain ⟨_, _, rfl, _⟩ := h
    rfl
  · obtain ⟨v, t, rfl, ⟨a, rfl, ha⟩, g, k⟩ := h
    refine ⟨_, (pss_cons (ps_if (pt_not (pt_val (pe_c h_are_integers hr (by decide) (by rfl) (pa_cons (pv 0) (pa_cons pe_int pa_nil))))) (pss_one (ps_ret pe_bl)) pss_nil) (pss_cons (ps_asg (pv 0) (pg_tup (by rfl) (pgs_cons (pg_name (i := 1) sc_is_turn.nd rfl (Or.inl rfl)) (pgs_cons (pg_name (i := 2) sc_is_turn.nd rfl (Or.inl rfl)) (pgs_cons (pg_name (i := 3) sc_is_turn.nd rfl (Or.inl rfl)) pgs_nil))))) (pss_one (ps_ret (pe_and (pe_chain op_lt op_le (pe_callB call_abs (by rfl) T.abs (by decide +kernel) (pa_cons (pv 2) pa_nil)) (pv 1) (pe_gc (by rfl) T.mostP)) (pe_and (pe_chain op_le op_le pe_int (pv 3) pe_int) (pe_and (pe_cmpR op_eq (pe_op op_mod (pe_op op_add (pv 1) (pv 2)) pe_int) pe_int (nomark _)) (pe_one (pe_cmpR op_eq (pe_c h_common hr (by decide) (by rfl) (pa_cons (pv 1) (pa_cons (pv 2) pa_nil))) pe_int (nomark _)))))))))), ?_⟩
    refine ⟨_, rfl, a, [t.1, t.2.1, t.2.2], 3, rfl, ha, rfl, (by show 3 ≤ 1000; decide), fun H1 e1 => ⟨true, rfl, ?_⟩⟩
    refine iteF ?_
    refine ⟨_, rfl, a, _, rfl, SqT.of (e1 _ _ ha), rfl, _, _, rfl, _, _, rfl, _, _, rfl, rfl, ?_⟩
    have g1 := g.lo
    have g2 := g.hi
    refine ⟨_, rfl, _, rfl, _, rfl, _, _, rfl, rfl, _, rfl, ?_⟩
    refine ifD (by rw [abs_if]; omega) ?_
    refine ⟨_, _, rfl, rfl, _, rfl, ?_⟩
    refine ifD g.most ?_
    refine ⟨_, rfl, _, _, rfl, rfl, _, rfl, ?_⟩
    refine ifD g.k0 ?_
    refine ⟨_, _, rfl, rfl, _, rfl, ?_⟩
    refine ifD g.k3 ?_
    refine ⟨_, rfl, _, rfl, _, _, rfl, rfl, _, _, rfl, rfl, (by show (0 : Int) < 2; decide), rfl, _, rfl, ?_⟩
    refine ifD (by show V.int ((t.1 + t.2.1) % 2) = V.int 1; rw [g.odd]) ?_
    refine ⟨_, rfl, _, rfl, _, _, rfl, rfl, ?_⟩
    refine qB (decide_eq_true ?_) (k H1 e1)
    rw [g.one]
    rfl

def s_need_turn : Sp := fun vs H Q _ => ∃ (v : V) (t : Tn), vs = [v] ∧ IsTn H v t ∧ Good t ∧ ∀ H', Same H H' → Q .non H'
theorem sc_need_turn : FnScope ["turn"] ["turn"] (defScope (top 17)) := ⟨rfl, rfl, rfl, by decide +kernel, rfl, by decide +kernel, by decide +kernel⟩
theorem c_need_turn (D : Dm K mg "need_turn" (top 17)) (T : Fre mg) (h_is_turn : Cal P w K mg base 3 "is_turn" s_is_turn [])  : Cal P w K mg base 4 "need_turn" s_need_turn [] := by
  refine cal_of D sc_need_turn (fun _ _ _ _ _ _ us hl => match us, hl with | [_], _ => rfl) (fun vs H Q E h => ?_) (fun f cdv A outer s H vs Q E hr h => ?_)
  · obtain ⟨_, _, rfl, _⟩ := h
    rfl
  · obtain ⟨v, t, rfl, hv, g, k⟩ := h
    refine ⟨_, (pss_one (ps_if (pt_not (pt_val (pe_c h_is_turn hr (by decide) (by rfl) (pa_cons (pv 0) pa_nil)))) (pss_one ps_never) pss_nil)), ?_⟩
    exact ⟨_, rfl, v, t, rfl, hv, g, fun H1 e1 => ⟨true, rfl, iteF (k H1 e1)⟩⟩

def s_need_pixel : Sp := fun vs H Q _ => ∃ (v : V) (z : Px), vs = [v] ∧ IsP H v z ∧ ∀ H', Same H H' → Q .non H'
theorem sc_need_pixel : FnScope ["pixel"] ["pixel"] (defScope (top 18)) := ⟨rfl, rfl, rfl, by decide +kernel, rfl, by decide +kernel, by decide +kernel⟩
theorem c_need_pixel (D : Dm K mg "need_pixel" (top 18)) (T : Fre mg) (h_is_pixel : Cal P w K mg base 3 "is_pixel" s_is_pixel [])  : Cal P w K mg base 4 "need_pixel" s_need_pixel [] := by
  refine cal_of D sc_need_pixel (fun _ _ _ _ _ _ us hl => match us, hl with | [_], _ => rfl) (fun vs H Q E h => ?_) (fun f cdv A outer s H vs Q E hr h => ?_)
  · obtain ⟨_, _, rfl, _⟩ := h
    rfl
  · obtain ⟨v, z, rfl, hv, k⟩ := h
    refine ⟨_, (pss_one (ps_if (pt_not (pt_val (pe_c h_is_pixel hr (by decide) (by rfl) (pa_cons (pv 0) pa_nil)))) (pss_one ps_never) pss_nil)), ?_⟩
    exact ⟨_, rfl, v, z, rfl, hv, fun H1 e1 => ⟨true, rfl, iteF (k H1 e1)⟩⟩

def s_size_of : Sp := fun vs H Q _ => ∃ (v : V) (t : Tn), vs = [v] ∧ IsTn H v t ∧ Good t ∧ Q (.int (t.1 * t.1 + t.2.1 * t.2.1)) H
theorem sc_size_of : FnScope ["turn"] ["turn"] (defScope (top 20)) := ⟨rfl, rfl, rfl, by decide +kernel, rfl, by decide +kernel, by decide +kernel⟩
theorem c_size_of (D : Dm K mg "size_of" (top 20)) (T : Fre mg)   : Cal P w K mg base 1 "size_of" s_size_of [] := by
  refine cal_of D sc_size_of (fun _ _ _ _ _ _ us hl => match us, hl with | [_], _ => rfl) (fun vs H Q E h => ?_) (fun f cdv A outer s H vs Q E hr h => ?_)
  · obtain ⟨_, _, rfl, _⟩ := h
    rfl
  · obtain ⟨v, t, rfl, ⟨a, rfl, ha⟩, g, k⟩ := h
    refine ⟨_, (pss_one (ps_ret (pe_op op_add (pe_op op_mulW (pe_ix ix_tup (pv 0) pe_int (fun _ _ => rfl)) (pe_ix ix_tup (pv 0) pe_int (fun _ _ => rfl))) (pe_op op_mulW (pe_ix ix_tup (pv 0) pe_int (fun _ _ => rfl)) (pe_ix ix_tup (pv 0) pe_int (fun _ _ => rfl)))))), ?_⟩
    obtain ⟨b1, b2⟩ := p50 g
    refine ⟨_, rfl, a, _, 0, _, rfl, rfl, SqT.of ha, rfl, ?_⟩
    refine ⟨_, rfl, a, _, 0, _, rfl, rfl, SqT.of ha, rfl, ?_⟩
    refine ⟨_, _, rfl, rfl, wide_mul b1 b1 (by decide) (by decide) (by decide), ?_⟩
    refine ⟨_, rfl, a, _, 1, _, rfl, rfl, SqT.of ha, rfl, ?_⟩
    refine ⟨_, rfl, a, _, 1, _, rfl, rfl, SqT.of ha, rfl, ?_⟩
    refine ⟨_, _, rfl, rfl, wide_mul b2 b2 (by decide) (by decide) (by decide), ?_⟩
    exact ⟨_, _, rfl, rfl, k⟩

def s_plain_legs : Sp := fun vs H Q _ => ∃ (v : V) (t : Tn), vs = [v] ∧ IsTn H v t ∧ Good t ∧ ∀ H' p, Same H H' → H' p = some (.tup [.int (t.1 * t.1 - t.2.1 * t.2.1), .int (2 * t.1 * t.2.1), .int (t.1 * t.1 + t.2.1 * t.2.1)]) → Q (.ref p) H'
theorem sc_plain_legs : FnScope ["turn", "p", "q"] ["turn"] (defScope (top 21)) := ⟨rfl, rfl, rfl, by decide +kernel, rfl, by decide +kernel, by decide +kernel⟩
theorem c_plain_legs (D : Dm K mg "plain_legs" (top 21)) (T : Fre mg)   : Cal P w K mg base 1 "plain_legs" s_plain_legs [] := by
  refine cal_of D sc_plain_legs (fun _ _ _ _ _ _ us hl => match us, hl with | [_], _ => rfl) (fun vs H Q E h => ?_) (fun f cdv A outer s H vs Q E hr h => ?_)
  · obtain ⟨_, _, rfl, _⟩ := h
    rfl
  · obtain ⟨v, t, rfl, ⟨a, rfl, ha⟩, g, k⟩ := h
    refine ⟨_, (pss_cons (ps_asg (pe_slice sl_tup (pv 0) po_none (po_some pe_int)) (pg_tup (by rfl) (pgs_cons (pg_name (i := 1) sc_plain_legs.nd rfl (Or.inl rfl)) (pgs_cons (pg_name (i := 2) sc_plain_legs.nd rfl (Or.inl rfl)) pgs_nil)))) (pss_one (ps_ret (pe_tup (pa_cons (pe_op op_sub (pe_op op_mulW (pv 1) (pv 1)) (pe_op op_mulW (pv 2) (pv 2))) (pa_cons (pe_op op_mulW (pe_op op_mul pe_int (pv 1)) (pv 2)) (pa_cons (pe_op op_add (pe_op op_mulW (pv 1) (pv 1)) (pe_op op_mulW (pv 2) (pv 2))) pa_nil))))))), ?_⟩
    obtain ⟨b1, b2⟩ := p50 g
    have b3 : (2 * t.1).natAbs < 2 ^ 52 := wide_lt (a := 2) (b := 50) (by decide) b1
    refine ⟨_, rfl, _, rfl, a, _, rfl, SqT.of ha, (by show ¬ (HT.sIx 3 0 none = 0 ∧ HT.sIx 3 3 (some 2) = 3); decide), fun p np => ?_⟩
    refine ⟨p, _, rfl, SqT.of upd_same, rfl, _, _, rfl, _, _, rfl, rfl, ?_⟩
    refine ⟨_, rfl, _, rfl, _, _, rfl, rfl, wide_mul b1 b1 (by decide) (by decide) (by decide), _, rfl, _, rfl, _, _, rfl, rfl, wide_mul b2 b2 (by decide) (by decide) (by decide), _, _, rfl, rfl, ?_⟩
    refine ⟨_, rfl, _, _, rfl, rfl, .inl ⟨by decide, by decide⟩, _, rfl, _, _, rfl, rfl, wide_mul b3 b2 (by decide) (by decide) (by decide), ?_⟩
    refine ⟨_, rfl, _, rfl, _, _, rfl, rfl, wide_mul b1 b1 (by decide) (by decide) (by decide), _, rfl, _, rfl, _, _, rfl, rfl, wide_mul b2 b2 (by decide) (by decide) (by decide), _, _, rfl, rfl, ?_⟩
    refine ⟨(by show 3 ≤ sizeLine; decide), fun p2 np2 => ?_⟩
    exact k _ p2 ((sm_new np).trans (sm_new np2)) upd_same

def s_quartered : Sp := fun vs H Q _ => ∃ (v : V) (z : Px) (m : Int), vs = [v, .int m] ∧ IsP H v z ∧ ∀ H' p, Same H H' → H' p = some (.tup [.int (quart z m).1, .int (quart z m).2]) → Q (.ref p) H'
theorem sc_quartered : FnScope ["pixel", "times", "x", "y", "step"] ["pixel", "times"] (defScope (top 22)) := ⟨rfl, rfl, rfl, by decide +kernel, rfl, by decide +kernel, by decide +kernel⟩
theorem c_quartered (D : Dm K mg "quartered" (top 22)) (T : Fre mg)   : Cal P w K mg base 1 "quartered" s_quartered [] := by
  refine cal_of D sc_quartered (fun _ _ _ _ _ _ us hl => match us, hl with | [_, _], _ => rfl) (fun vs H Q E h => ?_) (fun f cdv A outer s H vs Q E hr h => ?_)
  · obtain ⟨_, _, _, rfl, _⟩ := h
    rfl
  · obtain ⟨v, z, m, rfl, ⟨a, rfl, ha⟩, k⟩ := h
    refine ⟨_, (pss_cons (ps_asg (pv 0) (pg_tup (by rfl) (pgs_cons (pg_name (i := 2) sc_quartered.nd rfl (Or.inl rfl)) (pgs_cons (pg_name (i := 3) sc_quartered.nd rfl (Or.inl rfl)) pgs_nil)))) (pss_cons (ps_for PassesOwn.never rfl (pi_range1 (by rfl) T.rng (pa_cons (pe_op op_mod (pv 1) pe_int) pa_nil)) (pg_name (i := 4) sc_quartered.nd rfl (Or.inl rfl)) (pss_one (ps_par (i := 2) (j := 3) (by rfl) sc_quartered.nd rfl rfl (by decide) rfl rfl (pa_cons (pe_un un_neg (pv 3)) (pa_cons (pv 2) pa_nil)) (by rfl)))) (pss_one (ps_ret (pe_tup (pa_cons (pv 2) (pa_cons (pv 3) pa_nil))))))), ?_⟩
    refine ⟨_, rfl, a, _, rfl, SqT.of ha, rfl, _, _, rfl, _, _, rfl, rfl, ?_⟩
    have h1 := Int.emod_nonneg m (show (4 : Int) ≠ 0 by decide)
    have h2 := Int.emod_lt_of_pos m (show (0 : Int) < 4 by decide)
    refine ⟨_, rfl, _, _, rfl, rfl, (by show (0 : Int) < 4; decide), m % 4, rfl, (by omega), (by omega), for_range (lo := 0) (n := (m % 4).toNat) (fun i σ H' => ∃ sv, σ = [some (.ref a), some (.int m), some (.int (rot i z).1), some (.int (rot i z).2), sv] ∧ H' = H) ⟨none, rfl, rfl⟩ ?_ ?_⟩
    · rintro i σ H' hi ⟨sv, rfl, rfl⟩
      refine ⟨_, rfl, _, rfl, _, rfl, _, _, rfl, some (.int (0 + i)), ?_, rfl⟩
      rw [rot_add i 1]
      rfl
    · rintro σ H' ⟨sv, rfl, rfl⟩
      refine ⟨_, rfl, _, rfl, (by show 2 ≤ sizeLine; decide), fun p np => ?_⟩
      exact k _ p (sm_new np) upd_same

def s_nearest : Sp := fun vs H Q _ => ∃ n b : Int, vs = [.int n, .int b] ∧ 0 < b ∧ b.natAbs < 2 ^ 200 ∧ Q (.int (near n b)) H
theorem sc_nearest : FnScope ["number", "bottom"] ["number", "bottom"] (defScope (top 23)) := ⟨rfl, rfl, rfl, by decide +kernel, rfl, by decide +kernel, by decide +kernel⟩
theorem c_nearest (D : Dm K mg "nearest" (top 23)) (T : Fre mg)   : Cal P w K mg base 1 "nearest" s_nearest [] := by
  refine cal_of D sc_nearest (fun _ _ _ _ _ _ us hl => match us, hl with | [_, _], _ => rfl) (fun vs H Q E h => ?_) (fun f cdv A outer s H vs Q E hr h => ?_)
  · obtain ⟨_, _, rfl, _⟩ := h
    rfl
  · obtain ⟨n, b, rfl, hb, hs, k⟩ := h
    refine ⟨_, (pss_one (ps_ret (pe_op op_fdivW (pe_op op_add (pe_op op_mul pe_int (pv 0)) (pv 1)) (pe_op op_mul pe_int (pv 1))))), ?_⟩
    refine ⟨_, rfl, _, _, rfl, rfl, .inl ⟨by decide, by decide⟩, _, rfl, _, _, rfl, rfl, ?_⟩
    refine ⟨_, rfl, _, _, rfl, rfl, .inl ⟨by decide, by decide⟩, ?_⟩
    refine ⟨_, _, rfl, rfl, wide_div (b := 202) (by omega) (wide_lt (a := 2) (b := 200) (by decide) hs) (by decide) (by decide), k⟩


def place (t : Tn) (z : Px) : Px := ((t.1 * t.1 - t.2.1 * t.2.1) * z.1 - 2 * t.1 * t.2.1 * z.2, 2 * t.1 * t.2.1 * z.1 + (t.1 * t.1 - t.2.1 * t.2.1) * z.2)
theorem legs_b {t : Tn} (g : Good t) : (t.1 * t.1 - t.2.1 * t.2.1).natAbs < 2 ^ 102 ∧ (2 * t.1 * t.2.1).natAbs < 2 ^ 102 ∧ (t.1 * t.1 + t.2.1 * t.2.1).natAbs < 2 ^ 102 := by
  obtain ⟨b1, b2⟩ := p50 g
  have h1 := wide_lt b1 b1
  have h2 := wide_lt b2 b2
  have h3 := wide_lt (wide_lt (a := 2) (b := 50) (i := 2) (by decide) b1) b2
  have e : (2 : Nat) ^ (50 + 50) + 2 ^ (50 + 50) < 2 ^ 102 := by decide
  refine ⟨?_, h3, ?_⟩
  · omega
  · omega

def s_plain_place : Sp := fun vs H Q _ => ∃ (v v2 : V) (t : Tn) (z : Px), vs = [v, v2] ∧ IsTn H v t ∧ Good t ∧ IsP H v2 z ∧ Bd 5000 z ∧ ∀ H' p, Same H H' → H' p = some (.tup [.int (place t z).1, .int (place t z).2]) → Q (.ref p) H'
theorem sc_plain_place : FnScope ["turn", "pixel", "a", "b", "x", "y"] ["turn", "pixel"] (defScope (top 24)) := ⟨rfl, rfl, rfl, by decide +kernel, rfl, by decide +kernel, by decide +kernel⟩
theorem c_plain_place (D : Dm K mg "plain_place" (top 24)) (T : Fre mg) (h_plain_legs : Cal P w K mg base 1 "plain_legs" s_plain_legs [])  : Cal P w K mg base 2 "plain_place" s_plain_place [] := by
  refine cal_of D sc_plain_place (fun _ _ _ _ _ _ us hl => match us, hl with | [_, _], _ => rfl) (fun vs H Q E h => ?_) (fun f cdv A outer s H vs Q E hr h => ?_)
  · obtain ⟨_, _, _, _, rfl, _⟩ := h
    rfl
  · obtain ⟨v, v2, t, z, rfl, hv, g, ⟨a2, rfl, ha2⟩, hz, k⟩ := h
    refine ⟨_, (pss_cons (ps_asg (pe_slice sl_tup (pe_c h_plain_legs hr (by decide) (by rfl) (pa_cons (pv 0) pa_nil)) po_none (po_some pe_int)) (pg_tup (by rfl) (pgs_cons (pg_name (i := 2) sc_plain_place.nd rfl (Or.inl rfl)) (pgs_cons (pg_name (i := 3) sc_plain_place.nd rfl (Or.inl rfl)) pgs_nil)))) (pss_cons (ps_asg (pv 1) (pg_tup (by rfl) (pgs_cons (pg_name (i := 4) sc_plain_place.nd rfl (Or.inl rfl)) (pgs_cons (pg_name (i := 5) sc_plain_place.nd rfl (Or.inl rfl)) pgs_nil)))) (pss_one (ps_ret (pe_tup (pa_cons (pe_op op_sub (pe_op op_mulW (pv 2) (pv 4)) (pe_op op_mulW (pv 3) (pv 5))) (pa_cons (pe_op op_add (pe_op op_mulW (pv 3) (pv 4)) (pe_op op_mulW (pv 2) (pv 5))) pa_nil))))))), ?_⟩
    obtain ⟨la, lb, lc⟩ := legs_b g
    refine ⟨_, rfl, v, t, rfl, hv, g, fun H1 p e1 hp => ?_⟩
    refine ⟨_, rfl, p, _, rfl, SqT.of hp, (by show ¬ (HT.sIx 3 0 none = 0 ∧ HT.sIx 3 3 (some 2) = 3); decide), fun p2 np2 => ?_⟩
    refine ⟨p2, _, rfl, SqT.of upd_same, rfl, _, _, rfl, _, _, rfl, rfl, ?_⟩
    have e2 : Same H1 (upd H1 p2 (.tup (cutV [.int (t.1 * t.1 - t.2.1 * t.2.1), .int (2 * t.1 * t.2.1), .int (t.1 * t.1 + t.2.1 * t.2.1)] none (some 2)))) := sm_new np2
    refine ⟨_, rfl, a2, _, rfl, SqT.of (e2 _ _ (e1 _ _ ha2)), rfl, _, _, rfl, _, _, rfl, rfl, ?_⟩
    refine ⟨_, rfl, _, rfl, _, _, rfl, rfl, wide_mul la hz.1 (by decide) (by decide) (by decide), _, rfl, _, rfl, _, _, rfl, rfl, wide_mul lb hz.2 (by decide) (by decide) (by decide), _, _, rfl, rfl, ?_⟩
    refine ⟨_, rfl, _, rfl, _, _, rfl, rfl, wide_mul lb hz.1 (by decide) (by decide) (by decide), _, rfl, _, rfl, _, _, rfl, rfl, wide_mul la hz.2 (by decide) (by decide) (by decide), _, _, rfl, rfl, ?_⟩
    refine ⟨(by show 2 ≤ sizeLine; decide), fun p3 np3 => ?_⟩
    exact k _ p3 ((e1.trans e2).trans (sm_new np3)) upd_same


theorem ints_of {H : Hp} : ∀ {xs : List V} {ns : List Int}, Paired (IsI H) xs ns → xs = ns.map V.int
  | _, _, .nil => rfl
  | _, _, .cons h t => by rw [ints_of t, show _ = _ from h]; rfl

def s_plain_image : Sp := fun vs H Q _ => ∃ (v v2 : V) (t : Tn) (z : Px), vs = [v, v2] ∧ IsTn H v t ∧ Good t ∧ IsP H v2 z ∧ Bd 5000 z ∧ ∀ H' p, Same H H' → H' p = some (.tup [.int (plainImg t.1 t.2.1 z).1, .int (plainImg t.1 t.2.1 z).2]) → Q (.ref p) H'
theorem sc_plain_image : FnScope ["turn", "pixel", "c", "part"] ["turn", "pixel"] (defScope (top 25)) := ⟨rfl, rfl, rfl, by decide +kernel, rfl, by decide +kernel, by decide +kernel⟩
theorem c_plain_image (D : Dm K mg "plain_image" (top 25)) (T : Fre mg) (h_plain_place : Cal P w K mg base 2 "plain_place" s_plain_place []) (h_nearest : Cal P w K mg base 1 "nearest" s_nearest []) (h_size_of : Cal P w K mg base 1 "size_of" s_size_of [])  : Cal P w K mg base 3 "plain_image" s_plain_image [] := by
  refine cal_of D sc_plain_image (fun _ _ _ _ _ _ us hl => match us, hl with | [_, _], _ => rfl) (fun vs H Q E h => ?_) (fun f cdv A outer s H vs Q E hr h => ?_)
  · obtain ⟨_, _, _, _, rfl, _⟩ := h
    rfl
  · obtain ⟨v, v2, t, z, rfl, hv, g, hv2, hz, k⟩ := h
    refine ⟨_, (pss_cons (ps_set (i := 2) sc_plain_image.nd rfl (Or.inr rfl) (pe_c h_size_of hr (by decide) (by rfl) (pa_cons (pv 0) pa_nil))) (pss_one (ps_ret (pe_callTy call_tuple_of (by rfl) T.tup (by decide +kernel) (pa_cons (pe_lc (own := [("part", 3)]) (g := gName 3) (tt := tYes) (by rfl) sc_plain_image.nd (pi_tup (pe_c h_plain_place hr (by decide) (by rfl) (pa_cons (pv 0) (pa_cons (pv 1) pa_nil)))) (blkOk_by (own := [("part", 3)]) (N := ["turn", "pixel", "c", "part"]) (sc := (defScope (top 25))) (by decide +kernel)) (fun _ _ _ _ _ => pg_name (i := 3) sc_plain_image.nd rfl (Or.inl rfl)) (fun _ _ _ _ _ => pts_nil) (fun _ _ _ _ _ => (pe_c h_nearest hr (by decide) (by rfl) (pa_cons (pv 3) (pa_cons (pv 2) pa_nil))))) pa_nil))))), ?_⟩
    obtain ⟨la, lb, lc⟩ := legs_b g
    refine ⟨_, rfl, v, t, rfl, hv, g, ?_⟩
    refine ⟨_, rfl, _, rfl, v, v2, t, z, rfl, hv, g, hv2, hz, fun H1 p e1 hp => ?_⟩
    refine ⟨p, rfl, ⟨_, SqT.of hp⟩, fun D hD => lc_mapU (R := IsI) (R' := IsI) tpl_I tpl_I (fun n => near n (t.1 * t.1 + t.2.1 * t.2.1)) hD hp (ints_paired [(place t z).1, (place t z).2]) (by show 2 ≤ 1000; decide) (fun i x d H2 Q2 _ e hx q => ?_) fun H2 e hL => ?_⟩
    · obtain rfl : x = .int d := hx
      exact ⟨_, rfl, _, rfl, d, _, rfl, size_pos g.pos, Nat.lt_trans lc (by decide), q _ _ (Same.refl _) rfl⟩
    · obtain ⟨p2, xs, e1', e2, e3⟩ := hL
      cases e1'
      refine ⟨D, _, rfl, .inl ⟨SqL.of e2, fun l hl => ?_⟩⟩
      rw [ints_of e3]
      exact k _ l ((e1.trans e).trans (sm_new hl)) upd_same

def s_image_in : Sp := fun vs H Q _ => ∃ (v v2 : V) (t : Tn) (z : Px), vs = [v, v2] ∧ IsTn H v t ∧ Good t ∧ IsP H v2 z ∧ Bd 5000 z ∧ ∀ H' p, Same H H' → H' p = some (.tup [.int (img t z).1, .int (img t z).2]) → Q (.ref p) H'
theorem sc_image_in : FnScope ["turn", "pixel"] ["turn", "pixel"] (defScope (top 26)) := ⟨rfl, rfl, rfl, by decide +kernel, rfl, by decide +kernel, by decide +kernel⟩
theorem c_image_in (D : Dm K mg "image_in" (top 26)) (T : Fre mg) (h_quartered : Cal P w K mg base 1 "quartered" s_quartered []) (h_plain_image : Cal P w K mg base 3 "plain_image" s_plain_image [])  : Cal P w K mg base 4 "image_in" s_image_in [] := by
  refine cal_of D sc_image_in (fun _ _ _ _ _ _ us hl => match us, hl with | [_, _], _ => rfl) (fun vs H Q E h => ?_) (fun f cdv A outer s H vs Q E hr h => ?_)
  · obtain ⟨_, _, _, _, rfl, _⟩ := h
    rfl
  · obtain ⟨v, v2, t, z, rfl, hv, g, hv2, hz, k⟩ := h
    refine ⟨_, (pss_one (ps_ret (pe_c h_quartered hr (by decide) (by rfl) (pa_cons (pe_c h_plain_image hr (by decide) (by rfl) (pa_cons (pv 0) (pa_cons (pv 1) pa_nil))) (pa_cons (pe_ix ix_tup (pv 0) pe_int (fun _ _ => rfl)) pa_nil))))), ?_⟩
    refine ⟨_, rfl, _, rfl, v, v2, t, z, rfl, hv, g, hv2, hz, fun H1 p e1 hp => ?_⟩
    obtain ⟨a, rfl, ha⟩ := hv
    refine ⟨_, rfl, a, _, 2, _, rfl, rfl, SqT.of (e1 _ _ ha), rfl, ?_⟩
    exact ⟨_, plainImg t.1 t.2.1 z, t.2.2, rfl, ⟨p, rfl, hp⟩, fun H2 p2 e2 hp2 => k _ p2 (e1.trans e2) hp2⟩

def s_back_of : Sp := fun vs H Q _ => ∃ (v : V) (t : Tn), vs = [v] ∧ IsTn H v t ∧ ∀ H' p, Same H H' → H' p = some (.tup [.int (backT t).1, .int (backT t).2.1, .int (backT t).2.2]) → Q (.ref p) H'
theorem sc_back_of : FnScope ["turn"] ["turn"] (defScope (top 27)) := ⟨rfl, rfl, rfl, by decide +kernel, rfl, by decide +kernel, by decide +kernel⟩
theorem c_back_of (D : Dm K mg "back_of" (top 27)) (T : Fre mg)   : Cal P w K mg base 1 "back_of" s_back_of [] := by
  refine cal_of D sc_back_of (fun _ _ _ _ _ _ us hl => match us, hl with | [_], _ => rfl) (fun vs H Q E h => ?_) (fun f cdv A outer s H vs Q E hr h => ?_)
  · obtain ⟨_, _, rfl, _⟩ := h
    rfl
  · obtain ⟨v, t, rfl, ⟨a, rfl, ha⟩, k⟩ := h
    refine ⟨_, (pss_one (ps_ret (pe_tup (pa_cons (pe_ix ix_tup (pv 0) pe_int (fun _ _ => rfl)) (pa_cons (pe_un un_neg (pe_ix ix_tup (pv 0) pe_int (fun _ _ => rfl))) (pa_cons (pe_op op_mod (pe_un un_neg (pe_ix ix_tup (pv 0) pe_int (fun _ _ => rfl))) pe_int) pa_nil)))))), ?_⟩
    refine ⟨_, rfl, a, _, 0, _, rfl, rfl, SqT.of ha, rfl, ?_⟩
    refine ⟨_, rfl, a, _, 1, _, rfl, rfl, SqT.of ha, rfl, _, rfl, ?_⟩
    refine ⟨_, rfl, a, _, 2, _, rfl, rfl, SqT.of ha, rfl, _, rfl, _, _, rfl, rfl, (by show (0 : Int) < 4; decide), ?_⟩
    exact ⟨(by show 3 ≤ sizeLine; decide), fun p np => k _ p (sm_new np) upd_same⟩

def s_back : Sp := fun vs H Q _ => ∃ (v : V) (t : Tn), vs = [v] ∧ IsTn H v t ∧ Good t ∧ ∀ H' p, Same H H' → H' p = some (.tup [.int (backT t).1, .int (backT t).2.1, .int (backT t).2.2]) → Q (.ref p) H'
theorem sc_back : FnScope ["turn"] ["turn"] (defScope (top 28)) := ⟨rfl, rfl, rfl, by decide +kernel, rfl, by decide +kernel, by decide +kernel⟩
theorem c_back (D : Dm K mg "back" (top 28)) (T : Fre mg) (h_back_of : Cal P w K mg base 1 "back_of" s_back_of []) (h_need_turn : Cal P w K mg base 4 "need_turn" s_need_turn [])  : Cal P w K mg base 5 "back" s_back [] := by
  refine cal_of D sc_back (fun _ _ _ _ _ _ us hl => match us, hl with | [_], _ => rfl) (fun vs H Q E h => ?_) (fun f cdv A outer s H vs Q E hr h => ?_)
  · obtain ⟨_, _, rfl, _⟩ := h
    rfl
  · obtain ⟨v, t, rfl, hv, g, k⟩ := h
    refine ⟨_, (pss_cons (ps_expr (pe_c h_need_turn hr (by decide) (by rfl) (pa_cons (pv 0) pa_nil))) (pss_one (ps_ret (pe_c h_back_of hr (by decide) (by rfl) (pa_cons (pv 0) pa_nil))))), ?_⟩
    exact ⟨_, rfl, v, t, rfl, hv, g, fun H1 e1 => ⟨_, rfl, v, t, rfl, hv.same e1, fun H2 p e2 hp => k _ p (e1.trans e2) hp⟩⟩

end
end TP


set_option Elab.async false
set_option linter.all false
set_option maxRecDepth 100000
set_option maxHeartbeats 4000000
namespace TP
open PySem PySem.Spec PyProof.Rows L2
open C8 (Cal pe_c pe_gc)
section
variable {P : Program} {w : World} {K : PySem.W.Frag} {mg : Str → Option Value} {base : Heap}


theorem fst_ge (z w : Px) : Ob.lexAt (fun j => if j = 0 then z.1 == w.1 else z.2 == w.2) (fun j => if j = 0 then decide (w.1 ≤ z.1) else decide (w.2 ≤ z.2)) (decide (2 ≥ 2)) 0 (min 2 2) = decide (¬ ltP z w) := by
  show (if (z.1 == w.1) = true then (if (z.2 == w.2) = true then true else decide (w.2 ≤ z.2)) else decide (w.1 ≤ z.1)) = _
  unfold ltP
  by_cases h1 : z.1 = w.1
  · by_cases h2 : z.2 = w.2
    · simp [h1, h2]
    · rw [if_pos (beq_iff_eq.mpr h1), if_neg (by simpa using h2), decide_eq_decide]
      omega
  · rw [if_neg (by simpa using h1), decide_eq_decide]
    omega
/-- pixel >= pixel -/
def rGeP : R2 := fun x y H Q => ∃ z w : Px, IsP H x z ∧ IsP H y w ∧ Q (.bl (decide (¬ ltP z w))) H
theorem op_geP {X : Cx} (hu : X.A.units < cLine) : OpR X (compareOp .GtE) rGeP := by
  intro pins s σ H x y v u Q I rx ry ⟨z, w, ⟨a, hx, ha⟩, ⟨b, hy, hb⟩, q⟩
  subst hx hy
  cases rx
  cases ry
  obtain ⟨is, ra, pa, _⟩ := I.tuple (SqT.of ha)
  obtain ⟨js, rb, pb, _⟩ := I.tuple (SqT.of hb)
  obtain ⟨t1, t2, rfl⟩ := Vals.int2 ra
  obtain ⟨t3, t4, rfl⟩ := Vals.int2 rb
  have R := Ob.RcOp.tuples_ge (A := X.A) (s := s) (e := fun j => if j = 0 then z.1 == w.1 else z.2 == w.2) (r := fun j => if j = 0 then decide (w.1 ≤ z.1) else decide (w.2 ≤ z.2)) pa pb hu
    (fun j h1 h2 => match j, h1, h2 with
      | 0, _, _ => SeqAt.EqAt.int_int _ _ _ _
      | 1, _, _ => SeqAt.EqAt.int_int _ _ _ _)
    (fun j h1 h2 _ => match j, h1, h2 with
      | 0, _, _ => Ob.RcOp.ge_int _ _ _ _
      | 1, _, _ => Ob.RcOp.ge_int _ _ _ _)
  have g := R X.prog X.w X.xe (EP X pins σ Q)
  refine g ⟨.bl _, H, I, rfl, ?_⟩
  have e := fst_ge z w
  rw [← e] at q
  exact q
/-- pixel < pixel -/
def rLtP : R2 := fun x y H Q => ∃ z w : Px, IsP H x z ∧ IsP H y w ∧ Q (.bl (decide (ltP z w))) H
theorem op_ltP {X : Cx} (hu : X.A.units < cLine) : OpR X (compareOp .Lt) rLtP := by
  intro pins s σ H x y v u Q I rx ry ⟨z, w, ⟨a, hx, ha⟩, ⟨b, hy, hb⟩, q⟩
  refine op_ltT hu pins s σ H x y v u Q I rx ry ⟨a, b, [z.1, z.2], [w.1, w.2], hx, hy, SqT.of ha, SqT.of hb, ?_⟩
  have e : HT.lexLt [z.1, z.2] [w.1, w.2] = decide (ltP z w) := by
    show (if z.1 = w.1 then (if z.2 = w.2 then false else decide (z.2 < w.2)) else decide (z.1 < w.1)) = _
    have hlt : ltP z w ↔ (z.1 < w.1 ∨ (z.1 = w.1 ∧ z.2 < w.2)) := Iff.rfl
    by_cases h1 : z.1 = w.1
    · by_cases h2 : z.2 = w.2
      · rw [if_pos h1, if_pos h2]
        exact (decide_eq_false (by rw [hlt]; omega)).symm
      · rw [if_pos h1, if_neg h2, decide_eq_decide, hlt]
        omega
    · rw [if_neg h1, decide_eq_decide, hlt]
      omega
  rw [e]
  exact q
theorem asc_at {l : List Px} (h : Asc l) {i : Nat} {a b : Px} (ha : l[i]? = some a) (hb : l[i + 1]? = some b) : ltP a b := by
  obtain ⟨h1, rfl⟩ := List.getElem?_eq_some_iff.mp ha
  obtain ⟨h2, rfl⟩ := List.getElem?_eq_some_iff.mp hb
  exact List.pairwise_iff_getElem.mp h i (i + 1) h1 h2 (Nat.lt_succ_self i)
theorem atI_pred {xs : List V} {i : Nat} {v : V} (h : xs[i]? = some v) : atI xs (((i + 1 : Nat) : Int) - 1) = some v := by
  have e : ((i + 1 : Nat) : Int) - 1 = (i : Nat) := by omega
  rw [e]
  exact atI_nat h

def s_need_pixels : Sp := fun vs H Q _ => ∃ (v : V) (ps : List Px), vs = [v] ∧ Pic H v ps ∧ Asc ps ∧ ps.length ≤ 400 ∧ ∀ H', Same H H' → Q .non H'
theorem sc_need_pixels : FnScope ["pixels", "index", "pixel"] ["pixels"] (defScope (top 19)) := ⟨rfl, rfl, rfl, by decide +kernel, rfl, by decide +kernel, by decide +kernel⟩
theorem c_need_pixels (D : Dm K mg "need_pixels" (top 19)) (T : Fre mg) (h_is_pixel : Cal P w K mg base 3 "is_pixel" s_is_pixel [])  : Cal P w K mg base 4 "need_pixels" s_need_pixels [] := by
  refine cal_of D sc_need_pixels (fun _ _ _ _ _ _ us hl => match us, hl with | [_], _ => rfl) (fun vs H Q E h => ?_) (fun f cdv A outer s H vs Q E hr h => ?_)
  · obtain ⟨_, _, rfl, _⟩ := h
    rfl
  · obtain ⟨v, ps, rfl, ⟨a, xs, rfl, ha, hp⟩, hs, hl, k⟩ := h
    refine ⟨_, (pss_cons (ps_if (PW.pt (pw_or (pt_not (pt_val (pe_callB call_isi (by rfl) T.isi boot_isinstance (pa_cons (pv 0) (pa_cons (pe_bltn (v := .ty "list") (u := .type "list") (by rfl) T.lst (by decide +kernel) rfl) pa_nil))))) (pw_or1 (pt_cmpR op_gt (pe_callB call_len_seq (by rfl) T.len PySem.boot_len (pa_cons (pv 0) pa_nil)) (pe_gc (by rfl) T.mostPixels) (nomark _))))) (pss_one ps_never) pss_nil) (pss_one (ps_for PassesOwn.never rfl (pi_enum (by rfl) T.enu (pa_cons (pv 0) pa_nil)) (pg_tup (by rfl) (pgs_cons (pg_name (i := 1) sc_need_pixels.nd rfl (Or.inl rfl)) (pgs_cons (pg_name (i := 2) sc_need_pixels.nd rfl (Or.inl rfl)) pgs_nil))) (pss_one (ps_if (PW.pt (pw_or (pt_not (pt_val (pe_c h_is_pixel hr (by decide) (by rfl) (pa_cons (pv 2) pa_nil)))) (pw_or1 (PW.pt (pw_and (pt_cmpR op_gt (pv 1) pe_int (nomark _)) (pw_and1 (pt_cmpR (op_geP hr.units0) (pe_ix ix_list (pv 0) (pe_op op_sub (pv 1) pe_int) (fun _ _ => rfl)) (pv 2) (nomark _)))))))) (pss_one ps_never) pss_nil))))), ?_⟩
    refine ⟨_, rfl, _, _, _, _, true, rfl, .ty _, .base (.lst ha), kit_ty (by decide +kernel), true, rfl, ?_⟩
    refine iteF ?_
    refine ⟨_, rfl, a, _, rfl, .inl (SqL.of ha), _, _, rfl, rfl, _, rfl, ?_⟩
    have hx : xs.length = ps.length := hp.length
    refine ifN (by omega) ?_
    refine ⟨_, rfl, a, xs, rfl, SqL.of ha, for_it (walk_enum (xs := xs)) (fun i σ H' => ∃ v1 v2, σ = [some (.ref a), v1, v2] ∧ Same H H') ⟨none, none, rfl, Same.refl _⟩ (fun i σ H' _ ⟨_, _, _, e⟩ => SqL.of (e _ _ ha)) ?_ ?_⟩
    · rintro i x σ H1 H2 hi ⟨v1, v2, rfl, e1⟩ ⟨T, y, x', rfl, hT, rfl, hy, hx'⟩
      obtain rfl : V.int (i : Nat) = y := Option.some.inj hy
      obtain ⟨z, hz, hzp⟩ := Paired.at hp hx'
      have e2 : Same H1 (upd H1 T (.tup [.int (i : Nat), x'])) := sm_new hT
      have e3 := e1.trans e2
      refine ⟨T, _, rfl, SqT.of upd_same, rfl, _, _, rfl, _, _, rfl, rfl, ?_⟩
      refine ⟨_, rfl, x', z, rfl, hzp.same e3, fun H3 e4 => ⟨true, rfl, ?_⟩⟩
      refine iteF ?_
      refine ⟨_, rfl, _, _, rfl, rfl, _, rfl, ?_⟩
      cases i with
      | zero =>
        refine ifN (by decide) ?_
        exact iteF ⟨_, _, rfl, e3.trans e4⟩
      | succ i =>
        refine ifD (by omega) ?_
        have hi' : i < ps.length := by omega
        have hxi : i < xs.length := by omega
        obtain ⟨z0, hz0, hzp0⟩ := Paired.at hp (List.getElem?_eq_getElem hxi)
        refine ⟨_, rfl, _, rfl, _, _, rfl, rfl, a, _, _, _, rfl, rfl, SqL.of ((e3.trans e4) _ _ ha), atI_pred (List.getElem?_eq_getElem hxi), ?_⟩
        refine ⟨_, rfl, z0, z, hzp0.same (e3.trans e4), hzp.same (e3.trans e4), _, rfl, ?_⟩
        refine ifN (fun c => c (asc_at hs hz0 hz)) ?_
        exact ⟨_, _, rfl, e3.trans e4⟩
    · rintro σ H1 ⟨v1, v2, rfl, e1⟩
      exact k H1 e1


/-! shears -/
abbrev Stp := Bool × Int × Int
def stp (s : Stp) (z : Px) : Px := if s.1 = true then (z.1 + near (s.2.1 * z.2) s.2.2, z.2) else (z.1, z.2 + near (s.2.1 * z.1) s.2.2)
def unstp (s : Stp) (z : Px) : Px := if s.1 = true then (z.1 - near (s.2.1 * z.2) s.2.2, z.2) else (z.1, z.2 - near (s.2.1 * z.1) s.2.2)
theorem unstp_stp (s : Stp) (z : Px) : unstp s (stp s z) = z := by
  obtain ⟨b, t, n⟩ := s
  obtain ⟨x, y⟩ := z
  cases b <;> simp only [unstp, stp, if_true, Bool.false_eq_true, if_false, Prod.mk.injEq, true_and, and_true] <;> omega
def after (ss : List Stp) (z : Px) : Px := ss.foldl (fun z s => stp s z) z
def before (ss : List Stp) (z : Px) : Px := ss.foldl (fun z s => unstp s z) z
theorem before_after : ∀ (ss : List Stp) (z : Px), before ss.reverse (after ss z) = z
  | [], z => rfl
  | s :: ss, z => by
    unfold before after
    rw [List.reverse_cons, List.foldl_append]
    have ih := before_after ss (stp s z)
    unfold before after at ih
    show unstp s (List.foldl (fun z s => unstp s z) (List.foldl (fun z s => stp s z) (stp s z) ss) ss.reverse) = z
    rw [ih]
    exact unstp_stp s z
def chainT (t : Tn) (o : Bool) : List Stp := if o = true then [(true, -t.2.1, t.1), (false, 2 * t.1 * t.2.1, t.1 * t.1 + t.2.1 * t.2.1), (true, -t.2.1, t.1)]
  else [(false, t.2.1, t.1), (true, -(2 * t.1 * t.2.1), t.1 * t.1 + t.2.1 * t.2.1), (false, t.2.1, t.1)]
def shearT (t : Tn) (o : Bool) (z : Px) : Px := quart (after (chainT t o) z) t.2.2
def unshearT (t : Tn) (o : Bool) (z : Px) : Px := before (chainT t o).reverse (quart z (-t.2.2))
theorem quart_back (z : Px) (k : Int) : quart (quart z k) (-k) = z := by
  unfold quart
  rw [← rot_add]
  have e : (k % 4).toNat + (-k % 4).toNat = 0 ∨ (k % 4).toNat + (-k % 4).toNat = 4 := by omega
  rcases e with e | e
  · rw [e]; rfl
  · rw [e]; exact rot4 z
theorem unshear_shear (t : Tn) (o : Bool) (z : Px) : unshearT t o (shearT t o z) = z := by
  unfold unshearT shearT
  rw [quart_back]
  exact before_after _ z
structure GoodS (s : Stp) : Prop where
  pos : 0 < s.2.2
  le : s.2.1.natAbs ≤ s.2.2.natAbs
  sz : s.2.2.natAbs < 2 ^ 102
theorem near_shift {top bot y : Int} {n : Nat} (h0 : 0 < bot) (h1 : top.natAbs ≤ bot.natAbs) (h2 : y.natAbs < 2 ^ n) : (near (top * y) bot).natAbs ≤ 2 ^ n := by
  have h := near_abs (n := top * y) (c := bot) (k := y.natAbs) h0 (by rw [Int.natAbs_mul]; exact Nat.mul_le_mul_right _ h1)
  omega
theorem stp_bd {s : Stp} {z : Px} {n : Nat} (g : GoodS s) (h : Bd n z) : Bd (n + 2) (stp s z) ∧ Bd (n + 2) (unstp s z) := by
  obtain ⟨b, t, c⟩ := s
  obtain ⟨x, y⟩ := z
  obtain ⟨h1, h2, h3⟩ := g
  obtain ⟨h4, h5⟩ := h
  dsimp only at h1 h2 h3 h4 h5
  have hpw : (2 : Nat) ^ (n + 2) = 4 * 2 ^ n := by rw [Nat.pow_succ, Nat.pow_succ]; omega
  have e1 := near_shift h1 h2 h4
  have e2 := near_shift h1 h2 h5
  have pos : 0 < (2 : Nat) ^ n := Nat.pow_pos (by decide)
  cases b <;> unfold Bd <;> simp only [stp, unstp, if_true, Bool.false_eq_true, if_false] <;> omega
theorem chain_good {t : Tn} (g : Good t) (o : Bool) : ∀ s ∈ chainT t o, GoodS s := by
  obtain ⟨b1, b2⟩ := p50 g
  obtain ⟨la, lb, lc⟩ := legs_b g
  have h1 := g.lo
  have h2 := g.hi
  have hp := g.pos
  have hc := size_pos (q := t.2.1) hp
  have sq : ∀ a : Int, 0 ≤ a * a := fun a => by
    rcases Int.le_total 0 a with h | h
    · exact Int.mul_nonneg h h
    · have := Int.mul_nonneg (show 0 ≤ -a by omega) (show 0 ≤ -a by omega)
      have e : -a * -a = a * a := by grind
      omega
  have s1 := sq (t.1 - t.2.1)
  have s2 := sq (t.1 + t.2.1)
  have e1 : (t.1 - t.2.1) * (t.1 - t.2.1) = t.1 * t.1 + t.2.1 * t.2.1 - 2 * t.1 * t.2.1 := by grind
  have e2 : (t.1 + t.2.1) * (t.1 + t.2.1) = t.1 * t.1 + t.2.1 * t.2.1 + 2 * t.1 * t.2.1 := by grind
  have k : (2 : Nat) ^ 50 < 2 ^ 102 := by decide
  intro s hs
  have m : s = (true, -t.2.1, t.1) ∨ s = (false, 2 * t.1 * t.2.1, t.1 * t.1 + t.2.1 * t.2.1) ∨ s = (false, t.2.1, t.1) ∨ s = (true, -(2 * t.1 * t.2.1), t.1 * t.1 + t.2.1 * t.2.1) := by
    unfold chainT at hs
    split at hs <;> simp only [List.mem_cons, List.not_mem_nil, or_false] at hs
    · rcases hs with h | h | h
      · exact .inl h
      · exact .inr (.inl h)
      · exact .inl h
    · rcases hs with h | h | h
      · exact .inr (.inr (.inl h))
      · exact .inr (.inr (.inr h))
      · exact .inr (.inr (.inl h))
  rcases m with rfl | rfl | rfl | rfl <;> refine ⟨?_, ?_, ?_⟩ <;> dsimp only <;> omega
def IsS (H : Hp) (v : V) (s : Stp) : Prop := ∃ a, v = .ref a ∧ H a = some (.tup [.str (if s.1 = true then "x" else "y"), .int s.2.1, .int s.2.2])
theorem tpl_S : Tpl IsS := fun _ _ _ _ e ⟨a, h1, h2⟩ => ⟨a, h1, e _ _ h2⟩

def s_stepped : Sp := fun vs H Q _ => ∃ (v v2 : V) (st : Stp) (z : Px), vs = [v, v2] ∧ IsS H v st ∧ GoodS st ∧ IsP H v2 z ∧ Bd 5000 z ∧ ∀ H' p, Same H H' → H' p = some (.tup [.int (stp st z).1, .int (stp st z).2]) → Q (.ref p) H'
theorem sc_stepped : FnScope ["step", "pixel", "word", "top", "bottom", "x", "y"] ["step", "pixel"] (defScope (top 30)) := ⟨rfl, rfl, rfl, by decide +kernel, rfl, by decide +kernel, by decide +kernel⟩
theorem c_stepped (D : Dm K mg "stepped" (top 30)) (T : Fre mg) (h_nearest : Cal P w K mg base 1 "nearest" s_nearest [])  : Cal P w K mg base 2 "stepped" s_stepped [] := by
  refine cal_of D sc_stepped (fun _ _ _ _ _ _ us hl => match us, hl with | [_, _], _ => rfl) (fun vs H Q E h => ?_) (fun f cdv A outer s H vs Q E hr h => ?_)
  · obtain ⟨_, _, _, _, rfl, _⟩ := h
    rfl
  · obtain ⟨v, v2, st, z, rfl, ⟨a, rfl, ha⟩, ⟨hs1, hs2, hs3⟩, ⟨b, rfl, hb⟩, hz, k⟩ := h
    refine ⟨_, (pss_cons (ps_asg (pv 0) (pg_tup (by rfl) (pgs_cons (pg_name (i := 2) sc_stepped.nd rfl (Or.inl rfl)) (pgs_cons (pg_name (i := 3) sc_stepped.nd rfl (Or.inl rfl)) (pgs_cons (pg_name (i := 4) sc_stepped.nd rfl (Or.inl rfl)) pgs_nil))))) (pss_cons (ps_asg (pv 1) (pg_tup (by rfl) (pgs_cons (pg_name (i := 5) sc_stepped.nd rfl (Or.inl rfl)) (pgs_cons (pg_name (i := 6) sc_stepped.nd rfl (Or.inl rfl)) pgs_nil)))) (pss_one (ps_ret (pe_ifExp (pt_cmpR op_eq (pv 2) pe_str (nomark _)) (pe_tup (pa_cons (pe_op op_add (pv 5) (pe_c h_nearest hr (by decide) (by rfl) (pa_cons (pe_op op_mulW (pv 3) (pv 6)) (pa_cons (pv 4) pa_nil)))) (pa_cons (pv 6) pa_nil))) (pe_tup (pa_cons (pv 5) (pa_cons (pe_op op_add (pv 6) (pe_c h_nearest hr (by decide) (by rfl) (pa_cons (pe_op op_mulW (pv 3) (pv 5)) (pa_cons (pv 4) pa_nil)))) pa_nil)))))))), ?_⟩
    refine ⟨_, rfl, a, _, rfl, SqT.of ha, rfl, _, _, rfl, _, _, rfl, _, _, rfl, rfl, ?_⟩
    refine ⟨_, rfl, b, _, rfl, SqT.of hb, rfl, _, _, rfl, _, _, rfl, rfl, ?_⟩
    refine ⟨_, rfl, rfl, _, rfl, ?_⟩
    obtain ⟨c, top, bot⟩ := st
    dsimp only at hs1 hs2 hs3 k
    cases c with
    | true =>
      refine ifD rfl ?_
      refine ⟨_, rfl, _, rfl, _, rfl, _, _, rfl, rfl, wide_mul (a := 102) (b := 5000) (Nat.lt_of_le_of_lt hs2 hs3) hz.2 (by decide) (by decide) (by decide), _, rfl, _, _, rfl, hs1, Nat.lt_trans hs3 (by decide), _, _, rfl, rfl, ?_⟩
      exact ⟨_, rfl, (by show 2 ≤ sizeLine; decide), fun p np => k _ p (sm_new np) upd_same⟩
    | false =>
      refine ifN (by intro q; have q2 : V.str "y" = V.str "x" := q; exact absurd q2 (by decide +kernel)) ?_
      refine ⟨_, rfl, _, rfl, _, rfl, _, rfl, _, _, rfl, rfl, wide_mul (a := 102) (b := 5000) (Nat.lt_of_le_of_lt hs2 hs3) hz.1 (by decide) (by decide) (by decide), _, rfl, _, _, rfl, hs1, Nat.lt_trans hs3 (by decide), _, _, rfl, rfl, ?_⟩
      exact ⟨(by show 2 ≤ sizeLine; decide), fun p np => k _ p (sm_new np) upd_same⟩

def s_stepped_back : Sp := fun vs H Q _ => ∃ (v v2 : V) (st : Stp) (z : Px), vs = [v, v2] ∧ IsS H v st ∧ GoodS st ∧ IsP H v2 z ∧ Bd 5000 z ∧ ∀ H' p, Same H H' → H' p = some (.tup [.int (unstp st z).1, .int (unstp st z).2]) → Q (.ref p) H'
theorem sc_stepped_back : FnScope ["step", "pixel", "word", "top", "bottom", "x", "y"] ["step", "pixel"] (defScope (top 31)) := ⟨rfl, rfl, rfl, by decide +kernel, rfl, by decide +kernel, by decide +kernel⟩
theorem c_stepped_back (D : Dm K mg "stepped_back" (top 31)) (T : Fre mg) (h_nearest : Cal P w K mg base 1 "nearest" s_nearest [])  : Cal P w K mg base 2 "stepped_back" s_stepped_back [] := by
  refine cal_of D sc_stepped_back (fun _ _ _ _ _ _ us hl => match us, hl with | [_, _], _ => rfl) (fun vs H Q E h => ?_) (fun f cdv A outer s H vs Q E hr h => ?_)
  · obtain ⟨_, _, _, _, rfl, _⟩ := h
    rfl
  · obtain ⟨v, v2, st, z, rfl, ⟨a, rfl, ha⟩, ⟨hs1, hs2, hs3⟩, ⟨b, rfl, hb⟩, hz, k⟩ := h
    refine ⟨_, (pss_cons (ps_asg (pv 0) (pg_tup (by rfl) (pgs_cons (pg_name (i := 2) sc_stepped_back.nd rfl (Or.inl rfl)) (pgs_cons (pg_name (i := 3) sc_stepped_back.nd rfl (Or.inl rfl)) (pgs_cons (pg_name (i := 4) sc_stepped_back.nd rfl (Or.inl rfl)) pgs_nil))))) (pss_cons (ps_asg (pv 1) (pg_tup (by rfl) (pgs_cons (pg_name (i := 5) sc_stepped_back.nd rfl (Or.inl rfl)) (pgs_cons (pg_name (i := 6) sc_stepped_back.nd rfl (Or.inl rfl)) pgs_nil)))) (pss_one (ps_ret (pe_ifExp (pt_cmpR op_eq (pv 2) pe_str (nomark _)) (pe_tup (pa_cons (pe_op op_sub (pv 5) (pe_c h_nearest hr (by decide) (by rfl) (pa_cons (pe_op op_mulW (pv 3) (pv 6)) (pa_cons (pv 4) pa_nil)))) (pa_cons (pv 6) pa_nil))) (pe_tup (pa_cons (pv 5) (pa_cons (pe_op op_sub (pv 6) (pe_c h_nearest hr (by decide) (by rfl) (pa_cons (pe_op op_mulW (pv 3) (pv 5)) (pa_cons (pv 4) pa_nil)))) pa_nil)))))))), ?_⟩
    refine ⟨_, rfl, a, _, rfl, SqT.of ha, rfl, _, _, rfl, _, _, rfl, _, _, rfl, rfl, ?_⟩
    refine ⟨_, rfl, b, _, rfl, SqT.of hb, rfl, _, _, rfl, _, _, rfl, rfl, ?_⟩
    refine ⟨_, rfl, rfl, _, rfl, ?_⟩
    obtain ⟨c, top, bot⟩ := st
    dsimp only at hs1 hs2 hs3 k
    cases c with
    | true =>
      refine ifD rfl ?_
      refine ⟨_, rfl, _, rfl, _, rfl, _, _, rfl, rfl, wide_mul (a := 102) (b := 5000) (Nat.lt_of_le_of_lt hs2 hs3) hz.2 (by decide) (by decide) (by decide), _, rfl, _, _, rfl, hs1, Nat.lt_trans hs3 (by decide), _, _, rfl, rfl, ?_⟩
      exact ⟨_, rfl, (by show 2 ≤ sizeLine; decide), fun p np => k _ p (sm_new np) upd_same⟩
    | false =>
      refine ifN (by intro q; have q2 : V.str "y" = V.str "x" := q; exact absurd q2 (by decide +kernel)) ?_
      refine ⟨_, rfl, _, rfl, _, rfl, _, rfl, _, _, rfl, rfl, wide_mul (a := 102) (b := 5000) (Nat.lt_of_le_of_lt hs2 hs3) hz.1 (by decide) (by decide) (by decide), _, rfl, _, _, rfl, hs1, Nat.lt_trans hs3 (by decide), _, _, rfl, rfl, ?_⟩
      exact ⟨(by show 2 ≤ sizeLine; decide), fun p np => k _ p (sm_new np) upd_same⟩


theorem foldl_take {α β : Type} {f : β → α → β} {l : List α} {i : Nat} {x : α} {b : β} (h : l[i]? = some x) : (l.take (i + 1)).foldl f b = f ((l.take i).foldl f b) x := by
  rw [take_snoc h, List.foldl_append]
  rfl
theorem after_bd {ss : List Stp} (g : ∀ s ∈ ss, GoodS s) {n : Nat} {z : Px} (h : Bd n z) : ∀ i, Bd (n + 2 * i) (after (ss.take i) z) ∧ Bd (n + 2 * i) (before (ss.take i) z)
  | 0 => ⟨h, h⟩
  | i + 1 => by
    have ih := after_bd g h i
    cases e : ss[i]? with
    | none =>
      have hl : ss.length ≤ i := List.getElem?_eq_none_iff.mp e
      rw [List.take_of_length_le hl] at ih
      rw [List.take_of_length_le (Nat.le_succ_of_le hl)]
      exact ⟨ih.1.mono (by omega), ih.2.mono (by omega)⟩
    | some s =>
      have gs := g s (List.mem_of_getElem? e)
      unfold after before at ih ⊢
      rw [foldl_take e, foldl_take e]
      exact ⟨(stp_bd gs ih.1).1, (stp_bd gs ih.2).2⟩
theorem paired_rev {α β : Type} {F : α → β → Prop} : ∀ {l : List α} {l' : List β}, Paired F l l' → Paired F l.reverse l'.reverse
  | _, _, .nil => .nil
  | _, _, .cons h t => by
    rw [List.reverse_cons, List.reverse_cons]
    exact Paired.more (paired_rev t) h

def s_after_steps : Sp := fun vs H Q _ => ∃ (v v2 : V) (ss : List Stp) (z : Px) (n : Nat), vs = [v, v2] ∧ IsL IsS H v ss ∧ (∀ s ∈ ss, GoodS s) ∧ IsP H v2 z ∧ Bd n z ∧ n + 2 * ss.length ≤ 5000 ∧ ∀ H' v', Same H H' → IsP H' v' (after ss z) → Q v' H'
theorem sc_after_steps : FnScope ["chain", "pixel", "step"] ["chain", "pixel"] (defScope (top 32)) := ⟨rfl, rfl, rfl, by decide +kernel, rfl, by decide +kernel, by decide +kernel⟩
theorem c_after_steps (D : Dm K mg "after_steps" (top 32)) (T : Fre mg) (h_stepped : Cal P w K mg base 2 "stepped" s_stepped [])  : Cal P w K mg base 3 "after_steps" s_after_steps [] := by
  refine cal_of D sc_after_steps (fun _ _ _ _ _ _ us hl => match us, hl with | [_, _], _ => rfl) (fun vs H Q E h => ?_) (fun f cdv A outer s H vs Q E hr h => ?_)
  · obtain ⟨_, _, _, _, _, rfl, _⟩ := h
    rfl
  · obtain ⟨v, v2, ss, z, n, rfl, ⟨a, xs, rfl, ha, hp⟩, g, hv2, hb, hn, k⟩ := h
    refine ⟨_, (pss_cons (ps_for PassesOwn.never rfl (pi_list (pv 0)) (pg_name (i := 2) sc_after_steps.nd rfl (Or.inl rfl)) (pss_one (ps_set (i := 1) sc_after_steps.nd rfl (Or.inl rfl) (pe_c h_stepped hr (by decide) (by rfl) (pa_cons (pv 2) (pa_cons (pv 1) pa_nil)))))) (pss_one (ps_ret (pv 1)))), ?_⟩
    refine ⟨_, rfl, a, rfl, ⟨_, SqL.of ha⟩, for_list (xs := xs) (fun i σ H' => ∃ pv sv, σ = [some (.ref a), some pv, sv] ∧ Same H H' ∧ IsP H' pv (after (ss.take i) z)) ⟨v2, none, rfl, Same.refl _, hv2⟩ (fun i σ H' _ ⟨_, _, _, e, _⟩ => SqL.of (e _ _ ha)) ?_ ?_⟩
    · rintro i x σ H1 hx ⟨pv, sv, rfl, e1, hz1⟩
      obtain ⟨st, hst, hx2⟩ := Paired.at hp hx
      have hi : i < ss.length := (List.getElem?_eq_some_iff.mp hst).1
      refine ⟨_, rfl, _, rfl, x, pv, st, _, rfl, tpl_S _ _ _ _ (sm_t e1) hx2, g st (List.mem_of_getElem? hst), hz1, (after_bd g hb i).1.mono (by omega), fun H2 p e2 hp2 => ?_⟩
      refine ⟨_, _, rfl, e1.trans e2, p, rfl, ?_⟩
      unfold after
      rw [foldl_take hst]
      exact hp2
    · rintro σ H1 ⟨pv, sv, rfl, e1, hz1⟩
      refine ⟨_, rfl, ?_⟩
      rw [hp.length, List.take_length] at hz1
      exact k _ _ e1 hz1

def s_before_steps : Sp := fun vs H Q _ => ∃ (v v2 : V) (ss : List Stp) (z : Px) (n : Nat), vs = [v, v2] ∧ IsL IsS H v ss ∧ (∀ s ∈ ss, GoodS s) ∧ IsP H v2 z ∧ Bd n z ∧ n + 2 * ss.length ≤ 5000 ∧ ∀ H' v', Same H H' → IsP H' v' (before ss.reverse z) → Q v' H'
theorem sc_before_steps : FnScope ["chain", "pixel", "step"] ["chain", "pixel"] (defScope (top 33)) := ⟨rfl, rfl, rfl, by decide +kernel, rfl, by decide +kernel, by decide +kernel⟩
theorem c_before_steps (D : Dm K mg "before_steps" (top 33)) (T : Fre mg) (h_stepped_back : Cal P w K mg base 2 "stepped_back" s_stepped_back [])  : Cal P w K mg base 3 "before_steps" s_before_steps [] := by
  refine cal_of D sc_before_steps (fun _ _ _ _ _ _ us hl => match us, hl with | [_, _], _ => rfl) (fun vs H Q E h => ?_) (fun f cdv A outer s H vs Q E hr h => ?_)
  · obtain ⟨_, _, _, _, _, rfl, _⟩ := h
    rfl
  · obtain ⟨v, v2, ss, z, n, rfl, ⟨a, xs, rfl, ha, hp⟩, g, hv2, hb, hn, k⟩ := h
    refine ⟨_, (pss_cons (ps_for PassesOwn.never rfl (pi_list (pe_revL (pv 0))) (pg_name (i := 2) sc_before_steps.nd rfl (Or.inl rfl)) (pss_one (ps_set (i := 1) sc_before_steps.nd rfl (Or.inl rfl) (pe_c h_stepped_back hr (by decide) (by rfl) (pa_cons (pv 2) (pa_cons (pv 1) pa_nil)))))) (pss_one (ps_ret (pv 1)))), ?_⟩
    have g' : ∀ s ∈ ss.reverse, GoodS s := fun s hs => g s (List.mem_reverse.mp hs)
    have hp' := paired_rev hp
    refine ⟨_, rfl, a, xs, rfl, SqL.of ha, fun r hr => ⟨r, rfl, ⟨_, SqL.of upd_same⟩, for_list (xs := xs.reverse) (fun i σ H' => ∃ pv sv, σ = [some (.ref a), some pv, sv] ∧ Same (upd H r (.lst xs.reverse)) H' ∧ IsP H' pv (before (ss.reverse.take i) z)) ⟨v2, none, rfl, Same.refl _, hv2.same (sm_new hr)⟩ (fun i σ H' _ ⟨_, _, _, e, _⟩ => SqL.of (e _ _ upd_same)) ?_ ?_⟩⟩
    · rintro i x σ H1 hx ⟨pv, sv, rfl, e1, hz1⟩
      obtain ⟨st, hst, hx2⟩ := Paired.at hp' hx
      have hi : i < ss.reverse.length := (List.getElem?_eq_some_iff.mp hst).1
      rw [List.length_reverse] at hi
      refine ⟨_, rfl, _, rfl, x, pv, st, _, rfl, tpl_S _ _ _ _ (sm_t ((sm_new hr).trans e1)) hx2, g' st (List.mem_of_getElem? hst), hz1, (after_bd g' hb i).2.mono (by omega), fun H2 p e2 hp2 => ?_⟩
      refine ⟨_, _, rfl, e1.trans e2, p, rfl, ?_⟩
      unfold before
      rw [foldl_take hst]
      exact hp2
    · rintro σ H1 ⟨pv, sv, rfl, e1, hz1⟩
      refine ⟨_, rfl, ?_⟩
      rw [hp'.length, List.take_length] at hz1
      exact k _ _ ((sm_new hr).trans e1) hz1

instance (t : Tn) : Decidable (Keep t) := by unfold Keep; exact inferInstance
def s_is_keeping : Sp := fun vs H Q _ => ∃ (v : V) (t : Tn), vs = [v] ∧ IsTn H v t ∧ Q (.bl (decide (Keep t))) H
theorem sc_is_keeping : FnScope ["turn"] ["turn"] (defScope (top 35)) := ⟨rfl, rfl, rfl, by decide +kernel, rfl, by decide +kernel, by decide +kernel⟩
theorem c_is_keeping (D : Dm K mg "is_keeping" (top 35)) (T : Fre mg)   : Cal P w K mg base 1 "is_keeping" s_is_keeping [] := by
  refine cal_of D sc_is_keeping (fun _ _ _ _ _ _ us hl => match us, hl with | [_], _ => rfl) (fun vs H Q E h => ?_) (fun f cdv A outer s H vs Q E hr h => ?_)
  · obtain ⟨_, _, rfl, _⟩ := h
    rfl
  · obtain ⟨v, t, rfl, ⟨a, rfl, ha⟩, k⟩ := h
    refine ⟨_, (pss_one (ps_ret (pe_cmpR op_eq (pe_ix ix_tup (pv 0) pe_int (fun _ _ => rfl)) (pe_op op_add (pe_callB call_abs (by rfl) T.abs (by decide +kernel) (pa_cons (pe_ix ix_tup (pv 0) pe_int (fun _ _ => rfl)) pa_nil)) pe_int) (nomark _)))), ?_⟩
    refine ⟨_, rfl, a, _, 0, _, rfl, rfl, SqT.of ha, rfl, ?_⟩
    refine ⟨_, rfl, a, _, 1, _, rfl, rfl, SqT.of ha, rfl, _, rfl, _, _, rfl, rfl, rfl, ?_⟩
    have e : decide (V.int t.1 = V.int ((if t.2.1 < 0 then -t.2.1 else t.2.1) + 1)) = decide (Keep t) := by
      rw [abs_if, decide_eq_decide]
      exact ⟨fun q => V.int.inj q, fun q => congrArg V.int q⟩
    have k' : Q (.bl (decide (V.int t.1 = V.int ((if t.2.1 < 0 then -t.2.1 else t.2.1) + 1)))) H := by rw [e]; exact k
    exact k'

def s_lowest : Sp := fun vs H Q _ => ∃ n : Int, vs = [.int n, .int 2] ∧ ∀ H' v, Same H H' → Q v H'
theorem sc_lowest : FnScope ["top", "bottom", "least"] ["top", "bottom"] (defScope (top 36)) := ⟨rfl, rfl, rfl, by decide +kernel, rfl, by decide +kernel, by decide +kernel⟩
theorem c_lowest (D : Dm K mg "lowest" (top 36)) (T : Fre mg) (h_common : Cal P w K mg base 1 "common" s_common [])  : Cal P w K mg base 2 "lowest" s_lowest [] := by
  refine cal_of D sc_lowest (fun _ _ _ _ _ _ us hl => match us, hl with | [_, _], _ => rfl) (fun vs H Q E h => ?_) (fun f cdv A outer s H vs Q E hr h => ?_)
  · obtain ⟨_, rfl, _⟩ := h
    rfl
  · obtain ⟨n, rfl, k⟩ := h
    refine ⟨_, (pss_cons (ps_set (i := 2) sc_lowest.nd rfl (Or.inl rfl) (pe_c h_common hr (by decide) (by rfl) (pa_cons (pv 0) (pa_cons (pv 1) pa_nil)))) (pss_one (ps_ret (pe_tup (pa_cons (pe_op op_fdivW (pv 0) (pv 2)) (pa_cons (pe_op op_fdivW (pv 1) (pv 2)) pa_nil)))))), ?_⟩
    have g1 : (0 : Int) < ((Int.gcd n 2 : Nat) : Int) := by
      have := Int.gcd_pos_of_ne_zero_right (a := n) (b := 2) (by decide)
      omega
    have g2 : Int.gcd n 2 < 2 ^ 2 := by
      have := Nat.le_of_dvd (by decide : 0 < 2) (Int.natAbs_dvd_natAbs.mpr (Int.gcd_dvd_right n 2))
      have e : (((Int.gcd n 2 : Nat) : Int)).natAbs = Int.gcd n 2 := rfl
      omega
    refine ⟨_, rfl, _, rfl, n, 2, rfl, ?_⟩
    refine ⟨_, rfl, _, rfl, _, _, rfl, rfl, wide_div (b := 2) g1 g2 (by decide) (by decide), _, rfl, _, rfl, _, _, rfl, rfl, wide_div (b := 2) g1 g2 (by decide) (by decide), ?_⟩
    exact ⟨(by show 2 ≤ sizeLine; decide), fun p np => k _ _ (sm_new np)⟩

def s_keeps_all : Sp := fun vs H Q _ => ∃ (v : V) (t : Tn), vs = [v] ∧ IsTn H v t ∧ Good t ∧ ∀ H', Same H H' → Q (.bl (decide (Keep t))) H'
theorem sc_keeps_all : FnScope ["turn"] ["turn"] (defScope (top 37)) := ⟨rfl, rfl, rfl, by decide +kernel, rfl, by decide +kernel, by decide +kernel⟩
theorem c_keeps_all (D : Dm K mg "keeps_all" (top 37)) (T : Fre mg) (h_is_keeping : Cal P w K mg base 1 "is_keeping" s_is_keeping []) (h_need_turn : Cal P w K mg base 4 "need_turn" s_need_turn [])  : Cal P w K mg base 5 "keeps_all" s_keeps_all [] := by
  refine cal_of D sc_keeps_all (fun _ _ _ _ _ _ us hl => match us, hl with | [_], _ => rfl) (fun vs H Q E h => ?_) (fun f cdv A outer s H vs Q E hr h => ?_)
  · obtain ⟨_, _, rfl, _⟩ := h
    rfl
  · obtain ⟨v, t, rfl, hv, g, k⟩ := h
    refine ⟨_, (pss_cons (ps_expr (pe_c h_need_turn hr (by decide) (by rfl) (pa_cons (pv 0) pa_nil))) (pss_one (ps_ret (pe_c h_is_keeping hr (by decide) (by rfl) (pa_cons (pv 0) pa_nil))))), ?_⟩
    exact ⟨_, rfl, v, t, rfl, hv, g, fun H1 e1 => ⟨_, rfl, v, t, rfl, hv.same e1, k _ e1⟩⟩


def ordS (o : Bool) : Str := if o = true then "xyx" else "yxy"
theorem ord_in (o : Bool) : inV (.str (ordS o)) [.str "xyx", .str "yxy"] = true := by cases o <;> decide +kernel
theorem ord_x (o : Bool) : decide (V.str (ordS o) = V.str "xyx") = o := by cases o <;> decide +kernel

def s_need_order : Sp := fun vs H Q _ => ∃ o : Bool, vs = [.str (ordS o)] ∧ ∀ H', Same H H' → Q .non H'
theorem sc_need_order : FnScope ["order"] ["order"] (defScope (top 39)) := ⟨rfl, rfl, rfl, by decide +kernel, rfl, by decide +kernel, by decide +kernel⟩
theorem c_need_order (D : Dm K mg "need_order" (top 39)) (T : Fre mg)   : Cal P w K mg base 1 "need_order" s_need_order [] := by
  refine cal_of D sc_need_order (fun _ _ _ _ _ _ us hl => match us, hl with | [_], _ => rfl) (fun vs H Q E h => ?_) (fun f cdv A outer s H vs Q E hr h => ?_)
  · obtain ⟨_, rfl, _⟩ := h
    rfl
  · obtain ⟨o, rfl, k⟩ := h
    refine ⟨_, (pss_one (ps_if (PW.pt (pw_or (pt_not (pt_val (pe_callB call_isi (by rfl) T.isi boot_isinstance (pa_cons (pv 0) (pa_cons (pe_bltn (v := .ty "str") (u := .type "str") (by rfl) T.str (by decide +kernel) rfl) pa_nil))))) (pw_or1 (pt_cmpR op_notIn_seq (pv 0) (pe_tup (pa_cons pe_str (pa_cons pe_str pa_nil))) (by rfl))))) (pss_one ps_never) pss_nil)), ?_⟩
    refine ⟨_, rfl, _, _, _, _, true, rfl, .ty _, .base (.str _), kit_ty (by decide +kernel), true, rfl, ?_⟩
    refine iteF ?_
    refine ⟨_, rfl, (by show 2 ≤ sizeLine; decide), fun p np => ⟨p, _, rfl, .inr (SqT.of upd_same), rfl, rfl, _, rfl, ?_⟩⟩
    rw [if_pos rfl, ord_in]
    exact iteF (k _ (sm_new np))

def s_need_sheared : Sp := fun vs H Q _ => ∃ (v v2 : V) (t : Tn) (o : Bool) (z : Px), vs = [v, .str (ordS o), v2] ∧ IsTn H v t ∧ Good t ∧ IsP H v2 z ∧ ∀ H', Same H H' → Q .non H'
theorem sc_need_sheared : FnScope ["turn", "order", "pixel"] ["turn", "order", "pixel"] (defScope (top 40)) := ⟨rfl, rfl, rfl, by decide +kernel, rfl, by decide +kernel, by decide +kernel⟩
theorem c_need_sheared (D : Dm K mg "need_sheared" (top 40)) (T : Fre mg) (h_need_pixel : Cal P w K mg base 4 "need_pixel" s_need_pixel []) (h_need_order : Cal P w K mg base 1 "need_order" s_need_order []) (h_need_turn : Cal P w K mg base 4 "need_turn" s_need_turn [])  : Cal P w K mg base 5 "need_sheared" s_need_sheared [] := by
  refine cal_of D sc_need_sheared (fun _ _ _ _ _ _ us hl => match us, hl with | [_, _, _], _ => rfl) (fun vs H Q E h => ?_) (fun f cdv A outer s H vs Q E hr h => ?_)
  · obtain ⟨_, _, _, _, _, rfl, _⟩ := h
    rfl
  · obtain ⟨v, v2, t, o, z, rfl, hv, g, hv2, k⟩ := h
    refine ⟨_, (pss_cons (ps_expr (pe_c h_need_turn hr (by decide) (by rfl) (pa_cons (pv 0) pa_nil))) (pss_cons (ps_expr (pe_c h_need_order hr (by decide) (by rfl) (pa_cons (pv 1) pa_nil))) (pss_one (ps_expr (pe_c h_need_pixel hr (by decide) (by rfl) (pa_cons (pv 2) pa_nil)))))), ?_⟩
    exact ⟨_, rfl, v, t, rfl, hv, g, fun H1 e1 => ⟨_, rfl, o, rfl, fun H2 e2 => ⟨_, rfl, v2, z, rfl, hv2.same (e1.trans e2), fun H3 e3 => k _ ((e1.trans e2).trans e3)⟩⟩⟩

def s_chain_in : Sp := fun vs H Q _ => ∃ (v : V) (t : Tn) (o : Bool), vs = [v, .str (ordS o)] ∧ IsTn H v t ∧ Good t ∧ ∀ H' v', Same H H' → IsL IsS H' v' (chainT t o) → Q v' H'
theorem sc_chain_in : FnScope ["turn", "order", "p", "q", "b", "c"] ["turn", "order"] (defScope (top 41)) := ⟨rfl, rfl, rfl, by decide +kernel, rfl, by decide +kernel, by decide +kernel⟩
theorem c_chain_in (D : Dm K mg "chain_in" (top 41)) (T : Fre mg) (h_plain_legs : Cal P w K mg base 1 "plain_legs" s_plain_legs [])  : Cal P w K mg base 2 "chain_in" s_chain_in [] := by
  refine cal_of D sc_chain_in (fun _ _ _ _ _ _ us hl => match us, hl with | [_, _], _ => rfl) (fun vs H Q E h => ?_) (fun f cdv A outer s H vs Q E hr h => ?_)
  · obtain ⟨_, _, _, rfl, _⟩ := h
    rfl
  · obtain ⟨v, t, o, rfl, ⟨a, rfl, ha⟩, g, k⟩ := h
    refine ⟨_, (pss_cons (ps_asg (pe_slice sl_tup (pv 0) po_none (po_some pe_int)) (pg_tup (by rfl) (pgs_cons (pg_name (i := 2) sc_chain_in.nd rfl (Or.inl rfl)) (pgs_cons (pg_name (i := 3) sc_chain_in.nd rfl (Or.inl rfl)) pgs_nil)))) (pss_cons (ps_asg (pe_slice sl_tup (pe_c h_plain_legs hr (by decide) (by rfl) (pa_cons (pv 0) pa_nil)) (po_some pe_int) po_none) (pg_tup (by rfl) (pgs_cons (pg_name (i := 4) sc_chain_in.nd rfl (Or.inl rfl)) (pgs_cons (pg_name (i := 5) sc_chain_in.nd rfl (Or.inl rfl)) pgs_nil)))) (pss_cons (ps_if (pt_cmpR op_eq (pv 1) pe_str (nomark _)) (pss_one (ps_ret (pe_lst (pa_cons (pe_tup (pa_cons pe_str (pa_cons (pe_un un_neg (pv 3)) (pa_cons (pv 2) pa_nil)))) (pa_cons (pe_tup (pa_cons pe_str (pa_cons (pv 4) (pa_cons (pv 5) pa_nil)))) (pa_cons (pe_tup (pa_cons pe_str (pa_cons (pe_un un_neg (pv 3)) (pa_cons (pv 2) pa_nil)))) pa_nil)))))) pss_nil) (pss_one (ps_ret (pe_lst (pa_cons (pe_tup (pa_cons pe_str (pa_cons (pv 3) (pa_cons (pv 2) pa_nil)))) (pa_cons (pe_tup (pa_cons pe_str (pa_cons (pe_un un_neg (pv 4)) (pa_cons (pv 5) pa_nil)))) (pa_cons (pe_tup (pa_cons pe_str (pa_cons (pv 3) (pa_cons (pv 2) pa_nil)))) pa_nil))))))))), ?_⟩
    refine ⟨_, rfl, _, rfl, a, _, rfl, SqT.of ha, (by show ¬ (HT.sIx 3 0 none = 0 ∧ HT.sIx 3 3 (some 2) = 3); decide), fun p np => ?_⟩
    refine ⟨p, _, rfl, SqT.of upd_same, rfl, _, _, rfl, _, _, rfl, rfl, ?_⟩
    have e0 := sm_new (o := .tup (cutV [V.int t.1, .int t.2.1, .int t.2.2] none (some 2))) np
    refine ⟨_, rfl, _, t, rfl, ⟨a, rfl, e0 _ _ ha⟩, g, fun H1 p1 e1 hp1 => ?_⟩
    refine ⟨_, rfl, p1, _, rfl, SqT.of hp1, (by show ¬ (HT.sIx 3 0 (some 1) = 0 ∧ HT.sIx 3 3 none = 3); decide), fun p2 np2 => ?_⟩
    have e2 := sm_new (o := .tup (cutV [V.int (t.1 * t.1 - t.2.1 * t.2.1), .int (2 * t.1 * t.2.1), .int (t.1 * t.1 + t.2.1 * t.2.1)] (some 1) none)) np2
    refine ⟨p2, _, rfl, SqT.of upd_same, rfl, _, _, rfl, _, _, rfl, rfl, ?_⟩
    refine ⟨_, rfl, rfl, _, rfl, ?_⟩
    rw [ord_x]
    have sz : 3 ≤ sizeLine := by decide
    have fin : ∀ (H3 : Hp) (x1 x2 x3 : V) (p3 : Addr), Same (upd H1 p2 (.tup (cutV [V.int (t.1 * t.1 - t.2.1 * t.2.1), .int (2 * t.1 * t.2.1), .int (t.1 * t.1 + t.2.1 * t.2.1)] (some 1) none))) H3 → H3 p3 = none → Paired (IsS H3) [x1, x2, x3] (chainT t o) → Q (.ref p3) (upd H3 p3 (.lst [x1, x2, x3])) := fun H3 x1 x2 x3 p3 e3 n3 hx =>
      k _ _ ((((e0.trans e1).trans e2).trans e3).trans (sm_new n3)) ⟨p3, _, rfl, upd_same, Paired.imp (fun x d q => tpl_S _ _ _ _ (sm_t (sm_new n3)) q) hx⟩
    cases o with
    | true =>
      refine iteT ?_
      refine ⟨_, rfl, _, rfl, _, rfl, sz, fun q1 n1 => ?_⟩
      refine ⟨_, rfl, _, rfl, sz, fun q2 n2 => ?_⟩
      refine ⟨_, rfl, _, rfl, _, rfl, sz, fun q3 n3 => ⟨sz, fun p3 n4 => ?_⟩⟩
      have i1 := ne_of_none upd_same n2
      have i2 := ne_of_none (upd_same (o := .tup [V.str "y", .int (2 * t.1 * t.2.1), .int (t.1 * t.1 + t.2.1 * t.2.1)])) n3
      have i3 : q1 ≠ q3 := fun z => by
        rw [← z, upd_ne i1, upd_same] at n3
        cases n3
      refine fin _ _ _ _ p3 (((sm_new n1).trans (sm_new n2)).trans (sm_new n3)) n4 ?_
      exact .cons ⟨q1, rfl, by rw [upd_ne i3, upd_ne i1, upd_same]; rfl⟩ (.cons ⟨q2, rfl, by rw [upd_ne i2, upd_same]; rfl⟩ (.cons ⟨q3, rfl, by rw [upd_same]; rfl⟩ .nil))
    | false =>
      refine iteF ?_
      refine ⟨_, rfl, _, rfl, sz, fun q1 n1 => ?_⟩
      refine ⟨_, rfl, _, rfl, _, rfl, sz, fun q2 n2 => ?_⟩
      refine ⟨_, rfl, _, rfl, sz, fun q3 n3 => ⟨sz, fun p3 n4 => ?_⟩⟩
      have i1 := ne_of_none upd_same n2
      have i2 := ne_of_none (upd_same (o := .tup [V.str "x", .int (-(2 * t.1 * t.2.1)), .int (t.1 * t.1 + t.2.1 * t.2.1)])) n3
      have i3 : q1 ≠ q3 := fun z => by
        rw [← z, upd_ne i1, upd_same] at n3
        cases n3
      refine fin _ _ _ _ p3 (((sm_new n1).trans (sm_new n2)).trans (sm_new n3)) n4 ?_
      exact .cons ⟨q1, rfl, by rw [upd_ne i3, upd_ne i1, upd_same]; rfl⟩ (.cons ⟨q2, rfl, by rw [upd_ne i2, upd_same]; rfl⟩ (.cons ⟨q3, rfl, by rw [upd_same]; rfl⟩ .nil))

end
end TP


set_option Elab.async false
set_option linter.all false
set_option maxRecDepth 100000
set_option maxHeartbeats 4000000
namespace TP
open PySem PySem.Spec PyProof.Rows L2
/-! ### sorted, of pixels and of pairs of pixels -/
def encP (z : Px) : PyData := .tuple [.int z.1, .int z.2]
def encPP (z : Px × Px) : PyData := .tuple [encP z.1, encP z.2]
/-- a new pair of two pixels -/
def IsPP (H : Hp) (v : V) (z : Px × Px) : Prop := ∃ a x y, v = .ref a ∧ H a = some (.tup [x, y]) ∧ IsP H x z.1 ∧ IsP H y z.2
theorem tpl_PP : Tpl IsPP := fun _ _ _ _ e ⟨a, x, y, h1, h2, h3, h4⟩ => ⟨a, x, y, h1, e _ _ h2, tpl_P _ _ _ _ e h3, tpl_P _ _ _ _ e h4⟩
theorem dp_P {K : PySem.W.Frag} {H : Hp} {v : V} {z : Px} (h : IsP H v z) : Dp K H v (encP z) := by
  obtain ⟨a, rfl, ha⟩ := h
  exact .tup (SqT.of ha) (.cons (.int _) (.cons (.int _) .nil))
theorem dp_PP {K : PySem.W.Frag} {H : Hp} {v : V} {z : Px × Px} (h : IsPP H v z) : Dp K H v (encPP z) := by
  obtain ⟨a, x, y, rfl, ha, h1, h2⟩ := h
  exact .tup (SqT.of ha) (.cons (dp_P h1) (.cons (dp_P h2) .nil))
/-- what the sort hands back, by values -/
theorem each_back {α : Type} {R : V → α → Prop} : ∀ {us : List Value} {ds : List α}, PySem.W.EachIs (fun u d => ∃ v, RelV v u ∧ R v d) us ds → ∃ xs, Vals xs us ∧ Paired R xs ds
  | _, _, .nil => ⟨[], .nil, .nil⟩
  | _, _, .cons ⟨v, r, h⟩ t => by
    obtain ⟨xs, h1, h2⟩ := each_back t
    exact ⟨v :: xs, .cons r h1, .cons h h2⟩
theorem each_to {α : Type} {R : V → α → Prop} : ∀ {xs : List V} {us : List Value} {ds : List α}, Paired R xs ds → Vals xs us → PySem.W.EachIs (fun u d => ∃ v, RelV v u ∧ R v d) us ds
  | _, _, _, .nil, .nil => .nil
  | _, _, _, .cons h t, .cons r u => .cons ⟨_, r, h⟩ (each_to t u)
theorem each_reads {X : Cx} {pins : List (Addr × Obj)} {σ : L2.St} {H : Hp} {s : Shared} {α : Type} {R : V → α → Prop} {enc : α → PyData} (I : Inv X pins σ H s) (hd : ∀ v d, R v d → Dp X.K H v (enc d)) :
    ∀ {us : List Value} {ds : List α}, PySem.W.EachIs (fun u d => ∃ v, RelV v u ∧ R v d) us ds → PySem.W.EachIs (fun u d => ∃ as, Reads s.heap u (enc d) as) us ds
  | _, _, .nil => .nil
  | _, _, .cons ⟨v, r, h⟩ t => .cons (Dp.reads I _ v _ (hd v _ h) r) (each_reads I hd t)
def rSorted {α : Type} (R : Hp → V → α → Prop) (le : α → α → Bool) : List V → Hp → VK → Prop := fun vs H Q => ∃ (v : V) (ds : List α), vs = [v] ∧ IsL R H v ds ∧ ds.length ≤ 1000 ∧
  ∀ p xs, H p = none → Paired (R H) xs (ds.mergeSort le) → Q (.ref p) (upd H p (.lst xs))
theorem cr_sortData {X : Cx} {α : Type} {R : Hp → V → α → Prop} {enc : α → PyData} (hu : X.A.units + 64 < cLine) (hd : ∀ H v d, R H v d → Dp X.K H v (enc d)) (ha : ∀ b b', PySem.W.alike (enc b) (enc b') = true)
    (ht : ∀ b, ∃ x r, enc b = .tuple (x :: r)) (hz : ∀ b, (enc b).depth ≤ 8) : CallR X (.builtin "sorted") (rSorted R (PySem.W.dataLe false enc)) := by
  intro pins s σ H xs us Q I r h
  obtain ⟨v, ds, rfl, ⟨a, ys, rfl, hla, hp⟩, hn, q⟩ := h
  rw [Vals.ref1 r]
  obtain ⟨its, rv, pl, hz2⟩ := I.list (SqL.of (K := X.K) hla)
  have E := each_to hp rv
  refine PySem.W.sorted_data pl.isList E (each_reads I (hd H) E) (PySem.W.AllAlike.of ha) (PySem.W.Sortable.tuples ht) (small_le hn) (fun b _ => by have := hz b; omega) fun out hl E2 => ?_
  obtain ⟨zs, h1, h2⟩ := each_back E2
  have hf : H (s.heap.objs.size + 1) = none := I.hok.fresh (Nat.le_succ _)
  obtain ⟨c, hc⟩ := sortedAll_at s.heap its out.toArray
  refine ⟨.ref (s.heap.objs.size + 1), upd H (s.heap.objs.size + 1) (.lst zs), I.laid (t' := s.toks) (fun b u e => sortedAll_old e) (Nat.le_succ _) ?_, rfl, q _ zs hf h2⟩
  refine ⟨?_, out, c, h1, hc⟩
  rw [h2.length, List.length_mergeSort]
  exact small_le hn
theorem cr_sortP {X : Cx} (hu : X.A.units + 64 < cLine) : CallR X (.builtin "sorted") (rSorted IsP (PySem.W.dataLe false encP)) :=
  cr_sortData hu (fun _ _ _ h => dp_P h) (fun b b' => by simp [encP, PySem.W.alike, PySem.W.alikeAll]) (fun b => ⟨_, _, rfl⟩) (fun b => by simp [encP, PyData.depth, PyData.depthAll])
theorem cr_sortPP {X : Cx} (hu : X.A.units + 64 < cLine) : CallR X (.builtin "sorted") (rSorted IsPP (PySem.W.dataLe false encPP)) :=
  cr_sortData hu (fun _ _ _ h => dp_PP h) (fun b b' => by simp [encPP, encP, PySem.W.alike, PySem.W.alikeAll]) (fun b => ⟨_, _, rfl⟩) (fun b => by simp [encPP, encP, PyData.depth, PyData.depthAll])
theorem leP_iff {a b : Px} : (PySem.W.dataLe false encP) a b = true ↔ leP a b := by
  have e : PySem.W.dataLe false encP = fun p q : Px => decide (p.1 < q.1 ∨ (p.1 = q.1 ∧ p.2 ≤ q.2)) := PySem.W.dataLe_ii (fun p : Px => p.1) fun p => p.2
  rw [e]
  dsimp only
  rw [decide_eq_true_eq]
  obtain ⟨x, y⟩ := a
  obtain ⟨u, v⟩ := b
  unfold leP ltP
  dsimp only
  rw [Prod.mk.injEq]
  omega
theorem sort_canon {ps : List Px} (h : ps.Nodup) : ps.mergeSort (PySem.W.dataLe false encP) = canon ps := by
  refine sorted_is (List.mergeSort_perm _ _) ?_ h
  have tr : ∀ a b c : Px, PySem.W.dataLe false encP a b = true → PySem.W.dataLe false encP b c = true → PySem.W.dataLe false encP a c = true := fun a b c h1 h2 => by
    rw [leP_iff] at h1 h2 ⊢
    rcases h1 with rfl | h1
    · exact h2
    · rcases h2 with rfl | h2
      · exact .inr h1
      · exact .inr (ltP_trans h1 h2)
  have to : ∀ a b : Px, (PySem.W.dataLe false encP a b || PySem.W.dataLe false encP b a) = true := fun a b => by
    rw [Bool.or_eq_true, leP_iff, leP_iff]
    rcases ltP_tri a b with h | h | h
    · exact .inl (.inr h)
    · exact .inl (.inl h)
    · exact .inr (.inr h)
  first
    | exact (List.pairwise_mergeSort tr to ps).imp fun {a b} h => leP_iff.mp h
    | exact (List.sorted_mergeSort tr to ps).imp fun {a b} h => leP_iff.mp h
end TP


set_option Elab.async false
set_option linter.all false
set_option maxRecDepth 100000
set_option maxHeartbeats 4000000
namespace TP
open PySem PySem.Spec PyProof.Rows L2
/-! ### a set of tuples of ints, at most 76 of them (tables of 8, 32, 128 places) -/
structure SetQ (P : Program) (w : World) (h : Heap) (a : Addr) (L : List (Addr × List Int)) (es : Array (Int × Value)) (ep : Nat) (t : SetTable) : Prop where
  obj : ∃ o, h.get? a = some o ∧ o.ExactSet ∧ o.data = .set es ep t
  row : es.toList = rowsOf P w L
  tbl : TabOk t (L.map fun p => thash P w p.2)
  dif : (L.map (·.2)).Nodup
  tps : ∀ p ∈ L, IsT P w h p.2 p.1
  pln : t.plain = true
  ldd : w.params.followText "set-order" = true ∨ t.led = true
  roo : L.length * 5 < t.mask * 3
abbrev prb (t : SetTable) (z : Int) (c : Nat) : SetTable.Probe := nth t.mask (runAt t.mask (SetTable.bits z % (t.mask + 1)) (SetTable.bits z)) c
section
variable {P : Program} {w : World} {A : Around} {E : Value → Shared → Prop} {s : Shared} {a : Addr} {L : List (Addr × List Int)} {es : Array (Int × Value)} {ep : Nat} {t : SetTable}
theorem rows_size {L : List (Addr × List Int)} {es : Array (Int × Value)} (e : es.toList = rowsOf P w L) : es.size = L.length := by
  have q := congrArg List.length e
  rw [Array.length_toList] at q
  rw [q]
  exact List.length_map ..
theorem SetQ.siz (S : SetQ P w s.heap a L es ep t) : es.size = L.length := rows_size S.row
theorem SetQ.plc (S : SetQ P w s.heap a L es ep t) : t.place.size = L.length := by
  have q := S.tbl.sz
  rwa [List.length_map] at q
theorem fits_of {t : SetTable} {n : Nat} (h1 : t.place.size = n) (h2 : t.dummies = #[]) (h3 : n ≤ t.mask) : t.fits n = true := by
  unfold SetTable.fits SetTable.fill
  rw [h2, h1, beq_self_eq_true, Bool.true_and]
  exact decide_eq_true h3
theorem SetQ.fit (S : SetQ P w s.heap a L es ep t) : t.fits es.size = true := by
  rw [S.siz]
  exact fits_of S.plc S.tbl.dm (by have := S.roo; omega)
theorem row_at {L : List (Addr × List Int)} {es : Array (Int × Value)} (e : es.toList = rowsOf P w L) {i : Nat} {p : Addr × List Int} (h : L[i]? = some p) : es[i]? = some (thash P w p.2, Value.ref p.1) := by
  have q : es.toList[i]? = some (thash P w p.2, Value.ref p.1) := by
    rw [e]
    show (L.map _)[i]? = _
    rw [List.getElem?_map, h]
    rfl
  rwa [Array.getElem?_toList] at q
theorem prb_quiet (m : Nat) : ∀ (n : Nat) (p : SetTable.Probe), p.dummy = none → (nth m p n).dummy = none
  | 0, _, h => h
  | n + 1, p, h => prb_quiet m n (adv m p) (by unfold adv; split <;> exact h)
theorem prb_more (t : SetTable) (z : Int) (c q : Nat) : nth t.mask (prb t z c) q = prb t z (c + q) := (nth_add t.mask c _ q).symm
/-- the search, from the c-th place of the way on -/
theorem seek (S : SetQ P w s.heap a L es ep t) {x : Addr} {k : List Int} (hx : IsT P w s.heap k x) (hu : A.units < cLine) {K : Nat} (k1 : K < 10 * SetTable.turns t.mask)
    (k2 : way t.mask (thash P w k) K ∉ t.place.toList) (k3 : ∀ c, c < K → way t.mask (thash P w k) c ∈ t.place.toList) {Q : SetFound → Shared → Prop}
    (yes : k ∈ L.map (·.2) → Q (.there none) s) (non : k ∉ L.map (·.2) → Q (.free (way t.mask (thash P w k) K) false) s) (fuel : Nat) :
    ∀ (c : Nat) (st : Option SetTable.Probe), st.getD (t.probeStart (thash P w k)) = prb t (thash P w k) c → c ≤ K → K - c < fuel →
      (∀ (i : Nat) p, L[i]? = some p → p.2 = k → ∃ d, c ≤ d ∧ d < K ∧ t.place.toList[i]? = some (way t.mask (thash P w k) d)) →
      wpAny (model P w) A (setSearchFrom a (.ref x) (thash P w k) true fuel st) Q E s := by
  induction fuel with
  | zero => intro c st _ _ hf; exact absurd hf (Nat.not_lt_zero _)
  | succ fuel ih =>
    intro c st hst hc hf reach
    obtain ⟨o, ho, hex, hd⟩ := S.obj
    have gw : ¬ t.gaveWay = true := by
      unfold SetTable.gaveWay
      rw [mask_odd S.tbl.mok]
      decide
    have hashes : ∀ (i : Nat) p, L[i]? = some p → (es[i]?.map (·.1)).getD 0 = thash P w p.2 := fun i p hp => by rw [row_at S.row hp]; rfl
    rw [setSearchFrom_succ]
    refine wpAny_bind (wpAny_setState_of ho hd S.fit ?_); dsimp only
    refine wp_if_neg gw ?_; try refine wpAny_bind (wpAny_pure ?_)
    have spec := go_spec t S.tbl.ris S.tbl.dm (fun i => (es[i]?.map (·.1)).getD 0) (thash P w k) (10 * SetTable.turns t.mask) (K - c) (prb t (thash P w k) c) (prb_quiet _ _ _ rfl) (by omega)
      (fun q hq => by rw [prb_more]; exact k3 (c + q) (by omega)) (by rw [prb_more, show c + (K - c) = K by omega]; exact k2)
    rcases spec with ⟨q, i, hq, hi, hh, hno, hpr⟩ | ⟨hno, hpr⟩
    · rw [prb_more] at hi
      rw [prb_more, prb_more] at hpr
      have met : t.probe (fun i => (es[i]?.map (·.1)).getD 0) (thash P w k) (st.getD (t.probeStart (thash P w k))) = some (.candidate (way t.mask (thash P w k) (c + q)) i (prb t (thash P w k) (c + (q + 1)))) := by
        rw [hst]
        exact hpr
      rw [met]
      dsimp only
      have hil : i < L.length := by
        have z := (List.getElem?_eq_some_iff.mp hi).1
        rw [Array.length_toList, S.plc] at z
        exact z
      have hp : L[i]? = some L[i] := List.getElem?_eq_getElem hil
      generalize L[i] = p at hp
      have live : t.slot (way t.mask (thash P w k) (c + q)) = .live i := slot_live S.tbl.ris hi
      have rest : wpAny (model P w) A (searchRest a (.ref x) (thash P w k) true fuel es t (way t.mask (thash P w k) (c + q)) i (prb t (thash P w k) (c + (q + 1)))) Q E s := by
        unfold searchRest
        rw [row_at S.row hp]; dsimp only
        refine wpAny_bind (wpAny_holding (wpAny_eqBool_tuple hu (S.tps p (List.mem_of_getElem? hp)) hx (wpAny_bind (wpAny_setState_of ho hd S.fit ?_)))); dsimp only
        by_cases same : p.2 = k
        · refine wp_if_pos (by simp [same]) (wpAny_pure (yes ?_))
          rw [← same]
          exact List.mem_map_of_mem (List.mem_of_getElem? hp)
        · refine wp_if_neg (by simp [same]) ?_; try refine wpAny_bind (wpAny_pure ?_)
          rw [sameMem]; dsimp only
          simp only [if_true, live, row_at S.row hp]
          refine wpAny_bind (wpAny_isSame_ref_self (wpAny_bind (wpAny_pure ?_))); simp only [if_true]
          refine wp_if_neg (by simp [same]) (ih (c + (q + 1)) _ rfl (by omega) (by omega) fun i0 p0 h0 e0 => ?_)
          obtain ⟨d, d1, d2, d3⟩ := reach i0 p0 h0 e0
          refine ⟨d, ?_, d2, d3⟩
          rcases Nat.lt_trichotomy d (c + q) with z | z | z
          · refine (hno (d - c) i0 (by omega) ?_ ((hashes i0 p0 h0).trans (congrArg (thash P w) e0))).elim
            rw [prb_more, show c + (d - c) = d by omega]
            exact d3
          · rw [z] at d3
            have l2 := slot_live S.tbl.ris d3
            rw [live] at l2
            injection l2 with l2
            rw [← l2, hp] at h0
            exact (same ((congrArg Prod.snd (Option.some.inj h0)).trans e0)).elim
          · omega
      by_cases led : t.led = true
      · refine wp_if_neg (by simp [led]) ?_; try refine wpAny_bind (wpAny_pure ?_)
        exact rest
      · refine wp_if_pos (by simp [led]) (wpAny_bind (seen_tup hx (fun y hy => ?_) ?_))
        · obtain ⟨e, he, rfl⟩ := List.mem_map.mp hy
          have m1 : e ∈ es.toList := by
            have z : e ∈ es ∧ e.1 = thash P w k := by simpa using he
            simpa using z.1
          rw [S.row] at m1
          obtain ⟨r, hr, rfl⟩ := List.mem_map.mp m1
          exact ⟨r.2, r.1, rfl, S.tps r hr⟩
        · refine wp_if_neg (by decide) ?_; try refine wpAny_bind (wpAny_pure ?_)
          exact rest
    · rw [prb_more, show c + (K - c) = K by omega] at hpr
      have met : t.probe (fun i => (es[i]?.map (·.1)).getD 0) (thash P w k) (st.getD (t.probeStart (thash P w k))) = some (.empty (way t.mask (thash P w k) K) none) := by
        rw [hst]
        exact hpr
      rw [met]; dsimp only
      refine wpAny_pure (non fun hm => ?_)
      obtain ⟨p0, m0, e0⟩ := List.mem_map.mp hm
      obtain ⟨i0, l0, g0⟩ := List.getElem_of_mem m0
      have h0 : L[i0]? = some p0 := by rw [List.getElem?_eq_getElem l0, g0]
      obtain ⟨d, d1, d2, d3⟩ := reach i0 p0 h0 e0
      refine hno (d - c) i0 (by omega) ?_ ((hashes i0 p0 h0).trans (congrArg (thash P w) e0))
      rw [prb_more, show c + (d - c) = d by omega]
      exact d3
theorem seek0 (S : SetQ P w s.heap a L es ep t) {x : Addr} {k : List Int} (hx : IsT P w s.heap k x) (hu : A.units < cLine) {Q : SetFound → Shared → Prop} (yes : k ∈ L.map (·.2) → Q (.there none) s)
    (non : ∀ K, k ∉ L.map (·.2) → way t.mask (thash P w k) K ∉ t.place.toList → (∀ c, c < K → way t.mask (thash P w k) c ∈ t.place.toList) → Q (.free (way t.mask (thash P w k) K) false) s) :
    wpAny (model P w) A (setSearch a (.ref x) (thash P w k) true) Q E s := by
  obtain ⟨K, k1, k2, k3⟩ := S.tbl.first (by rw [List.length_map]; have := S.roo; omega) (thash P w k)
  have big : 10 * SetTable.turns t.mask ≤ 1420 := by
    unfold SetTable.turns
    rcases S.tbl.mok with e | e | e <;> omega
  unfold setSearch
  refine seek S hx hu k1 k2 k3 yes (fun hn => non K hn k2 k3) 100000 0 none rfl (Nat.zero_le _) (by omega) fun i p hp hk => ?_
  have l0 : i < t.place.toList.length := by
    rw [Array.length_toList, S.plc]
    exact (List.getElem?_eq_some_iff.mp hp).1
  have hj := List.getElem?_eq_getElem l0
  obtain ⟨c, hc, e⟩ := S.tbl.before k2 (i := i) (by rw [List.getElem?_map, hp, ← hk]; rfl) hj
  exact ⟨c, Nat.zero_le _, hc, by rw [hj, e]⟩
theorem set_size {w : Nat} {M : Nat} (h : SetTable.sizeAbove w - 1 = M) (hM : MaskOk M) : SetTable.sizeAbove w ≤ sizeLine := by
  have : M ≤ 127 := by rcases hM with e | e | e <;> omega
  rw [sizeLine_eq]
  omega
/-- laid anew in a greater table -/
theorem relay {o : Obj} (ho : s.heap.get? a = some o) (hex : o.ExactSet) (hd : o.data = .set es ep t) (row : es.toList = rowsOf P w L) (plc : t.place.size = L.length) (dm : t.dummies = #[]) (le : L.length ≤ t.mask)
    (dif : (L.map (·.2)).Nodup) (tps : ∀ p ∈ L, IsT P w s.heap p.2 p.1) (pln : t.plain = true) (ldd : w.params.followText "set-order" = true ∨ t.led = true) {wanted M : Nat}
    (hw : SetTable.sizeAbove wanted - 1 = M) (hM : MaskOk M) (roo : L.length * 5 < M * 3) {Q : Unit → Shared → Prop}
    (hQ : ∀ h' L' es' ep' t', Heap.SameBut a s.heap h' → SetQ P w h' a L' es' ep' t' → L'.Perm L → Q () { s with heap := h' }) : wpAny (model P w) A (setRelay a wanted) Q E s := by
  have siz := rows_size row
  have fit : t.fits es.size = true := by
    rw [siz]
    exact fits_of plc dm le
  obtain ⟨t', order, e, hp, T, em, el, epl, ed⟩ := relaid_ok t (hs := es.map (·.1)) (wanted := wanted) hw hM (by rw [Array.size_map, siz]; omega)
  rw [Array.size_map, siz] at hp
  obtain ⟨L2, r1, r2, r3⟩ := order_rows L es order row hp
  rw [← r3] at T
  have siz2 : (order.filterMap (es[·]?)).size = es.size := by rw [rows_size r1, r2.length_eq, siz]
  rw [setRelay_eq]
  refine wpAny_bind (wpAny_setState_of ho hd fit ?_); dsimp only
  refine wp_if_neg (Nat.not_lt.mpr (set_size hw hM)) ?_; try refine wpAny_bind (wpAny_pure ?_)
  rw [e]; dsimp only
  refine wpAny_bind (wp_if_neg (by rw [siz2]; simp) ?_); try refine wpAny_bind (wpAny_pure ?_)
  refine wpAny_pure ?_; dsimp only
  refine wpAny_storeSet_of ho hd ?_ (by rw [siz2, siz]; have : M ≤ 127 := (by rcases hM with z | z | z <;> omega); rw [sizeLine_eq]; omega)
  have sb : Heap.SameBut a s.heap (s.heap.update a (Obj.putSet (order.filterMap (es[·]?)) t')) := Heap.SameBut.update ..
  exact hQ _ L2 _ (ep + 1) t' sb ⟨⟨_, store_at ho hd, ⟨hex.1, hex.2.1, hex.2.2⟩, rfl⟩, r1, T, (r2.map (·.2)).nodup_iff.mpr dif, fun p hp => isT_same (tps p (r2.mem_iff.mp hp)) ho hd sb, by rw [epl]; exact pln, by rw [el]; exact ldd, by rw [r2.length_eq, em]; exact roo⟩ r2
/-- adding one -/
theorem addQ (S : SetQ P w s.heap a L es ep t) {x : Addr} {k : List Int} (hx : IsT P w s.heap k x) (hu : A.units < cLine) (few : L.length < 76) {Q : Bool → Shared → Prop}
    (hQ : ∀ b h' L' es' ep' t', Heap.SameBut a s.heap h' → SetQ P w h' a L' es' ep' t' → (k ∈ L.map (·.2) → L' = L) → (k ∉ L.map (·.2) → L'.Perm ((x, k) :: L)) → Q b { s with heap := h' }) :
    wpAny (model P w) A (setAddHashed a (.ref x) (thash P w k)) Q E s := by
  obtain ⟨o, ho, hex, hd⟩ := S.obj
  have siz := S.siz
  have roo := S.roo
  unfold setAddHashed
  rw [show (100000 : Nat) = 99999 + 1 from rfl, setAddHashedIn_succ]
  refine wpAny_holding (wpAny_bind (wpAny_setState_of ho hd S.fit ?_)); dsimp only
  refine wp_if_neg (by simp [byScan, Value.scannable]) ?_; try refine wpAny_bind (wpAny_pure ?_)
  refine wpAny_bind (seek0 S hx hu (fun hm => ?_) fun K hm kn kb => ?_)
  · exact wpAny_pure (hQ false s.heap L es ep t (Heap.SameBut.refl a s.heap) S (fun _ => rfl) fun z => absurd hm z)
  · dsimp only
    refine wpAny_bind (wpAny_setState_of ho hd S.fit ?_); dsimp only
    obtain ⟨q1, q2, q3, q4, q5, q6, q7, q8, q9⟩ := S.tbl.put kn kb
    have pln1 : (t.put (way t.mask (thash P w k) K)).1.plain = true := q6.trans S.pln
    generalize t.put (way t.mask (thash P w k) K) = pt at q1 q3 q4 q5 q6 q7 q8 q9 pln1 ⊢
    obtain ⟨t1, p⟩ := pt
    dsimp only at q1 q3 q4 q5 q6 q7 q8 q9 pln1 ⊢
    subst q1
    first
      | refine wpAny_bind (wp_if_pos pln1 (hashBy_tup hx ?_))
      | refine wp_if_pos pln1 (wpAny_bind (hashBy_tup hx ?_))
    simp only [if_true]
    have row1 : (SetTable.insertAt es (SetTable.below t.place (way t.mask (thash P w k) K)) (thash P w k, Value.ref x)).toList = rowsOf P w (L.take (SetTable.below t.place (way t.mask (thash P w k) K)) ++ (x, k) :: L.drop (SetTable.below t.place (way t.mask (thash P w k) K))) := by
      rw [SetTable.toList_insertAt, S.row, rows_put]
    generalize SetTable.below t.place (way t.mask (thash P w k) K) = p at q2 q3 row1 ⊢
    have pm := put_perm L p (x, k)
    have len1 : (L.take p ++ (x, k) :: L.drop p).length = L.length + 1 := pm.length_eq
    have hs1 : (L.take p ++ (x, k) :: L.drop p).map (fun p => thash P w p.2) = (L.map fun p => thash P w p.2).take p ++ thash P w k :: (L.map fun p => thash P w p.2).drop p := by simp
    rw [← hs1] at q3
    have dif1 : ((L.take p ++ (x, k) :: L.drop p).map (·.2)).Nodup := (pm.map (·.2)).nodup_iff.mpr (List.nodup_cons.mpr ⟨hm, S.dif⟩)
    have siz1 := rows_size row1
    rw [len1] at siz1
    generalize SetTable.insertAt es p (thash P w k, Value.ref x) = es1 at row1 siz1 ⊢
    generalize L.take p ++ (x, k) :: L.drop p = L1 at pm len1 q3 dif1 row1
    refine wpAny_bind (wpAny_storeSet_of ho hd ?_ (by rw [siz1, sizeLine_eq]; omega))
    have sb : Heap.SameBut a s.heap (s.heap.update a (Obj.putSet es1 t1)) := Heap.SameBut.update ..
    have ho1 := store_at (es' := es1) (t' := t1) ho hd
    generalize s.heap.update a (Obj.putSet es1 t1) = h1 at sb ho1 ⊢
    have tps1 : ∀ p ∈ L1, IsT P w h1 p.2 p.1 := fun p hp => by
      rcases List.mem_cons.mp (pm.mem_iff.mp hp) with e | hp
      · subst e
        exact isT_same hx ho hd sb
      · exact isT_same (S.tps p hp) ho hd sb
    have ldd1 : w.params.followText "set-order" = true ∨ t1.led = true := by
      rw [q5]
      exact S.ldd
    have plc1 : t1.place.size = L1.length := by
      have z := q3.sz
      rwa [List.length_map] at z
    by_cases full : t1.tooFull = true
    · have num : (L.length + 1) * 5 ≥ t1.mask * 3 := by
        have z := full
        unfold SetTable.tooFull at z
        rw [decide_eq_true_eq, q9, List.length_map] at z
        exact z
      have two : (t.mask = 7 ∧ L.length = 4) ∨ (t.mask = 31 ∧ L.length = 18) := by
        rcases S.tbl.mok with e | e | e
        · exact .inl ⟨e, by rw [q4, e] at num; rw [e] at roo; omega⟩
        · exact .inr ⟨e, by rw [q4, e] at num; rw [e] at roo; omega⟩
        · rw [q4, e] at num
          omega
      have go : ∀ M, SetTable.sizeAbove (SetTable.grown (L.length + 1)) - 1 = M → MaskOk M → (L.length + 1) * 5 < M * 3 →
          wpAny (model P w) A (setRelay a (SetTable.grown (L.length + 1))) (fun _ s' => wpAny (model P w) A (pure true) Q E s') E { s with heap := h1 } := fun M m1 m2 m3 =>
        relay (s := { s with heap := h1 }) ho1 ⟨hex.1, hex.2.1, hex.2.2⟩ rfl row1 plc1 q3.dm (by rw [len1, q4]; omega) dif1 tps1 pln1 ldd1 m1 m2 (by rw [len1]; exact m3)
          fun h2 L2 es2 ep2 t2 sb2 S2 pm2 => wpAny_pure (hQ true h2 L2 es2 ep2 t2 (sb.trans sb2) S2 (fun z => absurd z hm) fun _ => pm2.trans pm)
      have sized : wpAny (model P w) A (setRelay a (SetTable.grown (es.size + 1))) (fun _ s' => wpAny (model P w) A (pure true) Q E s') E { s with heap := h1 } := by
        rw [siz]
        rcases two with ⟨_, e2⟩ | ⟨_, e2⟩
        · exact go 31 (by rw [e2, size_20]) (.inr (.inl rfl)) (by omega)
        · exact go 127 (by rw [e2, size_76]) (.inr (.inr rfl)) (by omega)
      first
        | exact wpAny_bind (wp_if_pos (by simp [full]) sized)
        | exact wp_if_pos (by simp [full]) (wpAny_bind sized)
    · have roo1 : L1.length * 5 < t1.mask * 3 := by
        have z := full
        unfold SetTable.tooFull at z
        rw [decide_eq_true_eq, q9, List.length_map] at z
        rw [len1]
        omega
      first
        | exact wp_if_neg (by simp [full]) (wpAny_pure (hQ true h1 L1 es1 (ep + 1) t1 sb ⟨⟨_, ho1, ⟨hex.1, hex.2.1, hex.2.2⟩, rfl⟩, row1, q3, dif1, tps1, pln1, ldd1, roo1⟩ (fun z => absurd z hm) fun _ => pm))
        | exact wpAny_bind (wp_if_neg (by simp [full]) (wpAny_pure (wpAny_pure (hQ true h1 L1 es1 (ep + 1) t1 sb ⟨⟨_, ho1, ⟨hex.1, hex.2.1, hex.2.2⟩, rfl⟩, row1, q3, dif1, tps1, pln1, ldd1, roo1⟩ (fun z => absurd z hm) fun _ => pm))))
        | exact wpAny_bind (wp_if_neg (by simp [full]) (wpAny_pure (hQ true h1 L1 es1 (ep + 1) t1 sb ⟨⟨_, ho1, ⟨hex.1, hex.2.1, hex.2.2⟩, rfl⟩, row1, q3, dif1, tps1, pln1, ldd1, roo1⟩ (fun z => absurd z hm) fun _ => pm)))
/-- the empty set -/
theorem setQ_new {h : Heap} {a : Addr} (ho : h.get? a = some { cls := .type "set", dict := none, data := .set #[] 0 (.fresh 0 0 (!w.params.followText "set-order")) }) : SetQ P w h a [] #[] 0 (.fresh 0 0 (!w.params.followText "set-order")) := by
  have S := setTR_fresh (P := P) (w := w) ho
  exact ⟨S.ob, S.rows, S.tab, S.nd, S.tup, S.plain, S.led, S.room⟩
end
end TP


set_option Elab.async false
set_option linter.all false
set_option maxRecDepth 100000
set_option maxHeartbeats 4000000
namespace TP
open PySem PySem.Spec PyProof.Rows L2
/-! ### the set as a tracked object; its tuples are tracked beside it -/
def pl (M : List (Addr × Px)) : List (Addr × List Int) := M.map fun q => (q.1, [q.2.1, q.2.2])
structure SetP0 (P : Program) (w : World) (h : Heap) (a : Addr) (M : List (Addr × Px)) : Prop where
  ex : ∃ (es : Array (Int × Value)) (ep : Nat) (t : SetTable), (∃ o, h.get? a = some o ∧ o.ExactSet ∧ o.data = .set es ep t) ∧ es.toList = rowsOf P w (pl M) ∧ TabOk t ((pl M).map fun p => thash P w p.2) ∧ ((pl M).map (·.2)).Nodup ∧ t.plain = true ∧
    (w.params.followText "set-order" = true ∨ t.led = true) ∧ (pl M).length * 5 < t.mask * 3
def SetPO (P : Program) (w : World) (a : Addr) (M : List (Addr × Px)) : HO := .ext fun h => SetP0 P w h a M
section
variable {P : Program} {w : World} {h : Heap} {a : Addr} {M : List (Addr × Px)} {es : Array (Int × Value)} {ep : Nat} {t : SetTable}
theorem SetQ.p0 (S : SetQ P w h a (pl M) es ep t) : SetP0 P w h a M := ⟨es, ep, t, S.obj, S.row, S.tbl, S.dif, S.pln, S.ldd, S.roo⟩
theorem SetP0.full (S : SetP0 P w h a M) (ht : ∀ q ∈ M, IsT P w h [q.2.1, q.2.2] q.1) : ∃ es ep t, SetQ P w h a (pl M) es ep t := by
  obtain ⟨es, ep, t, h1, h2, h3, h4, h5, h6, h7⟩ := S.ex
  refine ⟨es, ep, t, h1, h2, h3, h4, fun p hp => ?_, h5, h6, h7⟩
  obtain ⟨q, hq, rfl⟩ := List.mem_map.mp hp
  exact ht q hq
theorem setPO_ok {H : Hp} (S : SetP0 P w h a M) : ObjOk P w H h a (SetPO P w a M) := by
  refine ⟨S, ?_, fun h1 h2 p keep => ?_⟩
  · obtain ⟨_, _, _, ⟨o, ho, _⟩, _⟩ := S.ex
    exact ⟨o, ho⟩
  · obtain ⟨es, ep, t, ⟨o, ho, r⟩, q⟩ := SetP0.ex p
    exact ⟨es, ep, t, ⟨o, keep o ho, r⟩, q⟩
theorem pl_dif (M : List (Addr × Px)) (z : Px) : [z.1, z.2] ∈ (pl M).map (·.2) ↔ z ∈ M.map (·.2) := by
  unfold pl
  rw [List.map_map]
  constructor
  · intro hz
    obtain ⟨q, hq, e⟩ := List.mem_map.mp hz
    have e' : [q.2.1, q.2.2] = [z.1, z.2] := e
    simp only [List.cons.injEq, and_true] at e'
    exact List.mem_map.mpr ⟨q, hq, Prod.ext e'.1 e'.2⟩
  · intro hz
    obtain ⟨q, hq, rfl⟩ := List.mem_map.mp hz
    exact List.mem_map.mpr ⟨q, hq, rfl⟩
/-- a rearrangement of such rows is one of pixels -/
theorem pl_perm {L : List (Addr × List Int)} {M : List (Addr × Px)} (p : L.Perm (pl M)) : ∃ M' : List (Addr × Px), L = pl M' ∧ M'.Perm M := by
  have un : ∀ M : List (Addr × Px), (pl M).map (fun p => (p.1, (p.2.getD 0 0, p.2.getD 1 0))) = M := fun M => by
    unfold pl
    rw [List.map_map]
    exact (List.map_congr_left fun q _ => rfl).trans (List.map_id M)
  refine ⟨L.map fun p => (p.1, (p.2.getD 0 0, p.2.getD 1 0)), ?_, ?_⟩
  · unfold pl
    rw [List.map_map]
    refine ((List.map_congr_left fun q hq => ?_).trans (List.map_id L)).symm
    obtain ⟨r, _, rfl⟩ := List.mem_map.mp (p.mem_iff.mp hq)
    rfl
  · have q := p.map fun p => (p.1, ((p.2.getD 0 0, p.2.getD 1 0) : Px))
    rwa [un] at q
end
section
variable {X : Cx} {pins : List (Addr × Obj)} {σ : L2.St} {H : Hp} {s : Shared}
theorem Inv_isT (I : Inv X pins σ H s) {b : Addr} {z : Px} (h : IsP H (.ref b) z) : IsT X.prog X.w s.heap [z.1, z.2] b := by
  obtain ⟨c, e, hc⟩ := h
  cases e
  exact Inv.isT I (k := [z.1, z.2]) (SqT.of hc)
/-- set.add of a pixel -/
theorem addP_ok {E : Value → Shared → Prop} {D x : Addr} {z : Px} {M : List (Addr × Px)} {Q : Value → Shared → Prop} (I : Inv X pins σ H s) (hu : X.A.units + 3 < cLine) (hD : H D = some (SetPO X.prog X.w D M)) (hM : ∀ q ∈ M, IsP H (.ref q.1) q.2)
    (hx : IsP H (.ref x) z) (few : M.length < 76)
    (k : ∀ s' M', Inv X pins σ (upd H D (SetPO X.prog X.w D M')) s' → (z ∈ M.map (·.2) → M' = M) → (z ∉ M.map (·.2) → M'.Perm ((x, z) :: M)) → Q .none s') : wpAny (model X.prog X.w) X.A (call (.builtin "set.add") [.ref D, .ref x]) Q E s := by
  have S0 : SetP0 X.prog X.w s.heap D M := (I.hok D _ hD).1
  obtain ⟨es, ep, t, S⟩ := S0.full fun q hq => Inv_isT I (hM q hq)
  obtain ⟨o, ho, hex, _⟩ := id S.obj
  have tk := Inv_isT I hx
  refine wpAny_call_entry F.slot_set_add ⟨o, ho, hex.1⟩ F.entry_set_add ?_ (F.args_set_add_2 _ _)
  unfold Builtin.«set.add» Builtin.Frozenset.oneOther
  simp only [List.isEmpty_nil, bind_assoc]
  unfold Builtin.Frozenset.addrOf setAdd
  refine wpAny_bind (wpAny_pure ?_); try dsimp only
  refine wpAny_bind (wpAny_pure ?_); try dsimp only
  refine wpAny_bind (wpAny_holding (wpAny_bind (wpAny_pyHash_tuple (knd := intKind X.prog X.w) ?hu tk ?_)))
  case hu =>
    show X.A.units + 1 < cLine
    omega
  refine addQ (s := { s with toks := s.toks + ([z.1, z.2].length + 1) }) S tk ?hv (by unfold pl; rw [List.length_map]; exact few) fun b h' L' es' ep' t' sb S' c1 c2 => ?_
  case hv =>
    show X.A.units + 1 < cLine
    omega
  show wpAny _ _ (ret Value.none) _ _ _
  obtain ⟨M', eM, y1, y2⟩ : ∃ M', L' = pl M' ∧ (z ∈ M.map (·.2) → M' = M) ∧ (z ∉ M.map (·.2) → M'.Perm ((x, z) :: M)) := by
    by_cases hz : z ∈ M.map (·.2)
    · exact ⟨M, c1 ((pl_dif M z).mpr hz), fun _ => rfl, fun n => absurd hz n⟩
    · obtain ⟨M', e, p⟩ := pl_perm (M := (x, z) :: M) (c2 fun q => hz ((pl_dif M z).mp q))
      exact ⟨M', e, fun n => absurd n hz, fun _ => p⟩
  subst eM
  refine wpAny_pure ⟨_, rfl, k _ M' (I.write (e := D) (by rw [hD]; trivial) (.inl rfl) (fun b u hb hu => (sb.2 b hb).trans hu) ?_ (setPO_ok S'.p0)) y1 y2⟩
  obtain ⟨o', ho', _⟩ := S'.obj
  exact ⟨o', ho'⟩
/-- {elt for target in iter}, elt a pixel -/
def tScP (P : Program) (w : World) (wi : TI) (g : TG) (te : TE) (vs : List Nat) : TE := fun σ H Q => wi σ H fun J H1 => ∀ D, H1 D = none → ∃ W : Nat → Nat → Hp → Prop, (∃ m, W 0 m (upd H1 D (SetPO P w D []))) ∧ ∀ i m H, W i m H →
  (J.stop i H ∧ Q (.ref D) H) ∨ (J.go i H ∧ ∃ Nx : Hp → Prop, (∀ H', Nx H' → ∃ m', m' < m ∧ W (i + 1) m' H') ∧ ∀ x H', J.yld i H x H' → g x (wipe σ vs) H' fun σ2 H2 => wipe σ2 vs = wipe σ vs ∧ te σ2 H2 fun y H4 =>
    ∃ (b : Addr) (z : Px) (M : List (Addr × Px)), y = .ref b ∧ IsP H4 (.ref b) z ∧ H4 D = some (SetPO P w D M) ∧ (∀ q ∈ M, IsP H4 (.ref q.1) q.2) ∧ M.length < 76 ∧
      ∀ M', (z ∈ M.map (·.2) → M' = M) → (z ∉ M.map (·.2) → M'.Perm ((b, z) :: M)) → Nx (upd H4 D (SetPO P w D M')))
theorem pe_scP {elt tg iter : Expr} {scope : Scope} {own : List (PySem.Str × Nat)} {pos : Pos} {wi : TI} {g : TG} {te : TE} (hc : X.calm = true) (hu : X.A.units + 3 < cLine) (hN : X.N.Nodup) (hi : PI X tg iter wi) (ok : BlkOk X.N X.env.scope scope own)
    (hg : ∀ (s : Shared) (H : Hp) (C : Addr) (cl : List (PySem.Str × Addr)) (fp : List Addr), PG (X.blk s H scope (compEnvC scope cl C X.env) fp) tg g)
    (he : ∀ (s : Shared) (H : Hp) (C : Addr) (cl : List (PySem.Str × Addr)) (fp : List Addr), PE (X.blk s H scope (compEnvC scope cl C X.env) fp) elt te) (hs : ∀ x, foldedSetIterable iter X.env x = pure x := by intro _; rfl) :
    PE X (.SetComp elt [⟨tg, iter, [], 0⟩] scope pos) (tScP X.prog X.w wi g te (own.map (·.2))) := by
  refine ⟨fun pins s σ H Q I h => ?_⟩
  rw [PpSet.eval_SetComp]
  have fre : ∀ y ∈ scope.names, y.2 = .free → ∃ c, X.env.cells.lookup y.1 = some c := fun y hy e => (ok.free y hy e).elim (fun k => I.ok.has _ (.inl k)) fun k => I.ok.has _ (.inr k)
  refine wpAny_comprehension_free rfl hs (closure_ok fre) ok.kind (fun y hy e => by rw [ok.uniq y hy, e]) (thn (hi.run pins s σ H _ I h) fun xv s1 hx => thn hx fun itv s2 ⟨it, fp, tn, J, H2, e, I2, T, st2, f2, q⟩ => ?_)
  subst e
  refine PpSet.newSet_ok (newEnv_comp ?_)
  generalize eD : s2.heap.objs.size = D
  obtain ⟨W, ⟨m0, w0⟩, turn⟩ := q D (I2.hok.fresh (Nat.le_of_eq eD))
  generalize e3 : ({ s2 with heap := s2.heap.push { cls := .type "set", dict := none, data := .set #[] 0 (.fresh 0 0 (!X.w.params.followText "set-order")) } } : Shared) = s3
  have hp3 : s3.heap = s2.heap.push { cls := .type "set", dict := none, data := .set #[] 0 (.fresh 0 0 (!X.w.params.followText "set-order")) } := by rw [← e3]
  have I3 : Inv X pins σ (upd H2 D (SetPO X.prog X.w D [])) s3 := by
    subst e3
    refine I2.laid (t' := s2.toks) (fun b o e => Heap.get?_push_of_some _ e) (Nat.le_of_eq eD) (setPO_ok (SetQ.p0 (setQ_new ?_)))
    rw [← eD]
    exact Heap.get?_push_size _ rfl
  have f3 : ∀ b ∈ fp, FpOk X pins (upd H2 D (SetPO X.prog X.w D [])) b ∧ b < s3.heap.objs.size := fun b hb => by
    obtain ⟨o, eo, _⟩ := T.obj _ _ st2 b hb
    have lt := Heap.lt_size eo
    refine ⟨⟨?_, (f2 b hb).2⟩, ?_⟩
    · rw [upd_ne (by rw [← eD]; exact Nat.ne_of_lt lt)]
      exact (f2 b hb).1
    · rw [hp3, Heap.size_push]
      exact Nat.lt_succ_of_lt lt
  have t3 : tn 0 s3.heap := T.keep _ _ _ st2 fun b _ o e => by rw [hp3]; exact Heap.get?_push_of_some _ e
  have I4 := block_start I3 ok hN f3
  have pg := hg s3 (upd H2 D (SetPO X.prog X.w D [])) s3.heap.objs.size (cellsFrom (s3.heap.objs.size + 1) scope.names (cloFrom X.env.cells scope.names [])) fp
  have pe := he s3 (upd H2 D (SetPO X.prog X.w D [])) s3.heap.objs.size (cellsFrom (s3.heap.objs.size + 1) scope.names (cloFrom X.env.cells scope.names [])) fp
  show codeAny _ _ (.compStart (.SetComp elt [⟨tg, iter, [], 0⟩] scope pos) 0 (.ref it) (.ref D) (compEnvC scope (cellsFrom (s3.heap.objs.size + 1) scope.names (cloFrom X.env.cells scope.names [])) s3.heap.objs.size X.env)) (compPost (model X.prog X.w) X.A X.xe _ _ (.ref D) s3.heap.objs.size) { s3 with heap := pushCells (s3.heap.push { cls := .type "dict", data := .dict #[] }) scope.names }
  have nfp : ∀ b ∈ fp, (upd H2 D (SetPO X.prog X.w D [])) b = none := fun b hb => (f3 b hb).1.1
  generalize ee : compEnvC scope (cellsFrom (s3.heap.objs.size + 1) scope.names (cloFrom X.env.cells scope.names [])) s3.heap.objs.size X.env = ce at I4 pg pe ⊢
  have cL : ce.locals = s3.heap.objs.size := by
    subst ee
    rfl
  generalize upd H2 D (SetPO X.prog X.w D []) = H3 at I3 I4 pg pe w0 nfp f3
  generalize e4 : ({ s3 with heap := pushCells (s3.heap.push { cls := .type "dict", data := .dict #[] }) scope.names } : Shared) = s4 at I4 ⊢
  have t4 : tn 0 s4.heap := T.keep _ _ _ t3 fun b _ o e => by rw [← e4]; exact pushCells_keeps _ _ _ _ (Heap.get?_push_of_some _ e)
  have foot : ∀ {σ' : L2.St} {H' : Hp} {s' : Shared}, Inv (X.blk s3 H3 scope ce fp) [] σ' H' s' → (∀ b ∈ fp, H' b = none) → ∀ b ∈ fp, FpOk (X.blk s3 H3 scope ce fp) [] H' b := fun {σ' H' s'} J hn b hb =>
    ⟨hn b hb, (J.ok.exf b hb).1, J.ok.exfs b hb, .inl hb, fun x c e => (J.ok.exf b hb).2 x c e, fun p hp => absurd (show p ∈ ([] : List (Addr × Obj)) ++ [] from hp) (by simp)⟩
  have fin : ∀ D C s' m H', Inv X pins σ H' s' → Q (.ref D) H' → s'.heap.Ns C m → FpOk X pins H' C → compPost (model X.prog X.w) X.A X.xe none (EP X pins σ Q) (.ref D) C (.ok .next) s' := fun D C s' m H' J q hn ⟨f0, f1, f2, f3, f4, f5⟩ =>
    ⟨m, hn, fun h'' sb => ⟨.ref D, H', J.turned (t' := s'.toks) (fun b o hb e => (sb.2 b hb).trans e) f0 f1 f3 f4 f5, rfl, q⟩⟩
  have loop : codeAny (model X.prog X.w) X.A (.compLoop (.SetComp elt [⟨tg, iter, [], 0⟩] scope pos) 0 (.ref it) (.ref D) ce) (compPost (model X.prog X.w) X.A X.xe none (EP X pins σ Q) (.ref D) s3.heap.objs.size) s4 := by
    refine PpSet.compLoopS_any (fun n s' => ∃ i H', Inv (X.blk s3 H3 scope ce fp) [] (wipe σ (own.map (·.2))) H' s' ∧ tn i s'.heap ∧ (∀ b ∈ fp, H' b = none) ∧ W i n H') ?_ m0 ⟨0, H3, I4, t4, nfp, w0⟩
    rintro n s5 ⟨i, H5, I5, t5, n5, w5⟩
    rcases turn i n H5 w5 with ⟨stop, qq⟩ | ⟨go, Nx, hNx, step⟩
    · refine thnF (T.done (X.blk s3 H3 scope ce fp) rfl rfl rfl hc i [] s5 _ H5 (fun _ _ => False) I5 (foot I5 n5) t5 stop) fun r s6 ⟨hr, I6⟩ => ?_
      subst hr
      have I7 : Inv X pins σ H5 s6 := I3.call' (ch := fp) I6.os I6.base I6.hok I6.bare fun b hb => ⟨(f3 b hb).1.2.2.2.1, (f3 b hb).1.2.1, (f3 b hb).1.2.2.2.2.1, (f3 b hb).1.2.2.2.2.2⟩
      have nC : H5 ce.locals = none := I6.free
      obtain ⟨m, hn, _⟩ := I6.loc
      have hn' : s6.heap.Ns ce.locals m := hn
      rw [cL] at hn' nC
      exact fin D s3.heap.objs.size s6 m H5 I7 qq hn' (I3.fpOk (Nat.le_refl _) nC)
    · refine thnF (T.item (X.blk s3 H3 scope ce fp) rfl rfl rfl hc i [] s5 _ H5 (fun _ _ => False) I5 (foot I5 n5) t5 go) fun r s6 ⟨u, hr, h6⟩ => ?_
      subst hr
      refine thnF h6 fun _ s7 ⟨x, H7, I7, r7, y7, t7, n7⟩ => ?_
      refine thnF (pg.run _ s7 _ H7 x u _ (I7.pinned (foot I7 n7) (T.obj _ _ t7)) r7 (step x H7 y7)) fun _ s8 ⟨σ8, H8, I8, w8, q8⟩ => ?_
      refine thnF ((pts_nil (X := X.blk s3 H3 scope ce fp)).run _ s8 σ8 H8 (fun b H' => b = true ∧ H' = H8) I8 ⟨rfl, rfl⟩) fun b s9 ⟨H9, I9, eb, eH⟩ => ?_
      subst eb eH
      simp only [if_true]
      have again : ∀ {s' : Shared} {H' : Hp}, Inv (X.blk s3 H3 scope ce fp) ([] ++ pinsAt fp s7.heap) σ8 H' s' → Nx H' → ∃ m, m < n ∧ ∃ i H', Inv (X.blk s3 H3 scope ce fp) [] (wipe σ (own.map (·.2))) H' s' ∧ tn i s'.heap ∧ (∀ b ∈ fp, H' b = none) ∧ W i m H' := fun {s' H'} J nx => by
        obtain ⟨m', hm, w'⟩ := hNx H' nx
        have pinned : ∀ b ∈ fp, ∀ o, s7.heap.get? b = some o → s'.heap.get? b = some o ∧ H' b = none := fun b hb o e =>
          have z := J.pin (b, o) (List.mem_append_right _ (List.mem_append_right _ (mem_pinsAt hb e)))
          ⟨z.1, z.2.1⟩
        refine ⟨m', hm, i + 1, H', (J.unpinned (pins := [])).weak (by rw [← w8, wipe_length]) (fun j v e => ?_), T.keep _ _ _ t7 fun b hb o e => (pinned b hb o e).1, fun b hb => ?_, w'⟩
        · rw [← w8] at e
          exact (wipe_some e).1
        · obtain ⟨o, e, _⟩ := T.obj _ _ t7 b hb
          exact (pinned b hb o e).2
      refine thnF (pe.run _ s9 σ8 H9 _ I9 q8) fun v s10 ⟨yv, H10, I10, r10, b, z, M, ey, hz, hD10, hM, few, nx⟩ => ?_
      subst ey
      cases (show v = Value.ref b from r10)
      exact addP_ok (X := X.blk s3 H3 scope ce fp) I10 hu hD10 hM hz few fun s11 M' I11 y1 y2 => again I11 (nx M' y1 y2)
  exact PpSet.codeAny_compStart_set loop (T.self X.A 0 _ _ _ t4 loop)
end
end TP


set_option Elab.async false
set_option linter.all false
set_option maxRecDepth 100000
set_option maxHeartbeats 4000000
namespace TP
open PySem PySem.Spec PyProof.Rows L2
theorem perm_back {α β : Type} {f : α → β} {vs us : List β} (p : vs.Perm us) : ∀ {M : List α}, us = M.map f → ∃ N : List α, N.Perm M ∧ vs = N.map f := by
  induction p with
  | nil =>
    intro M e
    cases M with
    | nil => exact ⟨[], .nil, rfl⟩
    | cons m M => cases e
  | cons x p ih =>
    intro M e
    cases M with
    | nil => cases e
    | cons m M =>
      injection e with e1 e2
      obtain ⟨N, h1, h2⟩ := ih e2
      exact ⟨m :: N, h1.cons m, by rw [h2, e1]; rfl⟩
  | swap x y l =>
    intro M e
    match M, e with
    | m1 :: m2 :: M, e =>
      injection e with e1 e2
      injection e2 with e2 e3
      exact ⟨m2 :: m1 :: M, List.Perm.swap .., by rw [e1, e2, e3]; rfl⟩
  | trans p q ih1 ih2 =>
    intro M e
    obtain ⟨N, h1, h2⟩ := ih2 e
    obtain ⟨N', h3, h4⟩ := ih1 h2
    exact ⟨N', h3.trans h1, h4⟩
theorem reads_P {P : Program} {w : World} {h : Heap} {b : Addr} {z : Px} (t : IsT P w h [z.1, z.2] b) : Reads h (.ref b) (encP z) [] := by
  obtain ⟨o, items, n, ho, hc, hd, hi⟩ := t
  refine Reads.tuple (as := []) ho hc hd ?_
  generalize items.toList = l at hi
  cases hi with
  | cons h1 h2 =>
    cases h2 with
    | cons h3 h4 =>
      cases h4
      obtain ⟨t1, rfl⟩ := Value.isInt_shape h1
      obtain ⟨t2, rfl⟩ := Value.isInt_shape h3
      exact .cons (as := []) (.int _ _) (.cons (as := []) (.int _ _) .nil)
theorem each_map1 {α β : Type} {R : β → α → Prop} {f : α → β} : ∀ {l : List α}, (∀ x ∈ l, R (f x) x) → PySem.W.EachIs R (l.map f) l
  | [], _ => .nil
  | x :: l, h => .cons (h x List.mem_cons_self) (each_map1 fun y hy => h y (List.mem_cons_of_mem _ hy))
theorem each_is {α β : Type} {f : α → β} : ∀ {us : List β} {l : List α}, PySem.W.EachIs (fun u x => u = f x) us l → us = l.map f
  | _, _, .nil => rfl
  | _, _, .cons h t => by rw [h, each_is t]; rfl
theorem sort_snd (N : List (Addr × Px)) (h : (N.map (·.2)).Nodup) : (N.mergeSort (PySem.W.dataLe false fun q => encP q.2)).map (·.2) = canon (N.map (·.2)) := by
  have le : ∀ a b : Addr × Px, (PySem.W.dataLe false fun q : Addr × Px => encP q.2) a b = PySem.W.dataLe false encP a.2 b.2 := fun _ _ => rfl
  refine sorted_is ((List.mergeSort_perm _ _).map _) ?_ h
  have tr : ∀ a b c : Addr × Px, (PySem.W.dataLe false fun q : Addr × Px => encP q.2) a b = true → (PySem.W.dataLe false fun q : Addr × Px => encP q.2) b c = true → (PySem.W.dataLe false fun q : Addr × Px => encP q.2) a c = true := fun a b c h1 h2 => by
    rw [le, leP_iff] at h1 h2 ⊢
    rcases h1 with e | h1
    · rw [e]; exact h2
    · rcases h2 with e | h2
      · rw [← e]; exact .inr h1
      · exact .inr (ltP_trans h1 h2)
  have to : ∀ a b : Addr × Px, ((PySem.W.dataLe false fun q : Addr × Px => encP q.2) a b || (PySem.W.dataLe false fun q : Addr × Px => encP q.2) b a) = true := fun a b => by
    rw [Bool.or_eq_true, le, le, leP_iff, leP_iff]
    rcases ltP_tri a.2 b.2 with h | h | h
    · exact .inl (.inr h)
    · exact .inl (.inl h)
    · exact .inr (.inr h)
  have pw : (N.mergeSort (PySem.W.dataLe false fun q => encP q.2)).Pairwise fun a b => leP a.2 b.2 := by
    first
      | exact (List.pairwise_mergeSort tr to N).imp fun {a b} h => leP_iff.mp h
      | exact (List.sorted_mergeSort tr to N).imp fun {a b} h => leP_iff.mp h
  exact List.pairwise_map.mpr pw
def rSortSet (P : Program) (w : World) : List V → Hp → VK → Prop := fun vs H Q => ∃ (a : Addr) (M : List (Addr × Px)), vs = [.ref a] ∧ H a = some (SetPO P w a M) ∧ (∀ q ∈ M, IsP H (.ref q.1) q.2) ∧ M.length ≤ 76 ∧
  ∀ p xs, H p = none → Paired (IsP H) xs (canon (M.map (·.2))) → Q (.ref p) (upd H p (.lst xs))
theorem cr_sortSet {X : Cx} (hc : X.calm = true) (hu : X.A.units + 64 < cLine) : CallR X (.builtin "sorted") (rSortSet X.prog X.w) := by
  intro pins s σ H xs us Q I r h
  obtain ⟨a, M, rfl, ha, hM, few, q⟩ := h
  rw [Vals.ref1 r]
  have S0 : SetP0 X.prog X.w s.heap a M := (I.hok a _ ha).1
  have tk : ∀ q ∈ M, IsT X.prog X.w s.heap [q.2.1, q.2.2] q.1 := fun q hq => Inv_isT I (hM q hq)
  obtain ⟨es, ep, t, S⟩ := S0.full tk
  obtain ⟨o, ho, hex, hd⟩ := id S.obj
  have siz := S.siz
  have lenp : (pl M).length = M.length := List.length_map ..
  refine Calls.call_function_entry kind_sorted plain_sorted entry_sorted (args_sorted1 _) ?_
  unfold Builtin.«sorted»
  refine wpAny_bind (m := checkCount "sorted" 1 1 _) (wpAny_pure (wpAny_bind (collect_set (A := X.A.in1) (I.ok.hd hc) ⟨o, ho, hex.1, hd⟩ S.fit (by unfold scanBound; omega) S.tbl.ris S.ldd fun s1 vs k1 hz g1 o1 pm => ?_)))
  have hes : es.toList.map (·.2) = M.map fun q => Value.ref q.1 := by
    rw [S.row]
    unfold rowsOf pl
    rw [List.map_map, List.map_map]
    rfl
  rw [hes] at pm
  obtain ⟨N, pN, rfl⟩ := perm_back pm rfl
  have dN : (N.map (·.2)).Nodup := by
    refine (pN.map (·.2)).nodup_iff.mpr ?_
    have d := S.dif
    unfold pl at d
    rw [List.map_map] at d
    refine List.pairwise_map.mpr ((List.pairwise_map.mp d).imp fun {x y} hne e => hne ?_)
    show [x.2.1, x.2.2] = [y.2.1, y.2.2]
    rw [e]
  have lN : N.length ≤ 76 := by rw [pN.length_eq]; exact few
  refine wpAny_bind (wpAny_newList ?_ (by rw [List.length_map, sizeLine_eq]; omega))
  have gL : (s1.heap.push (seqObj "list" (N.map fun q => Value.ref q.1).toArray 0)).get? s1.heap.objs.size = some (seqObj "list" (N.map fun q => Value.ref q.1).toArray 0) := Heap.get?_push_size _ rfl
  have old : ∀ b u, s.heap.get? b = some u → (s1.heap.push (seqObj "list" (N.map fun q => Value.ref q.1).toArray 0)).get? b = some u := fun b u e => Heap.get?_push_of_some _ (k1 b u e)
  refine wpAny_bind (wpAny_holding (PySem.W.list_sort_data (s := { s1 with heap := s1.heap.push (seqObj "list" (N.map fun q => Value.ref q.1).toArray 0) }) (enc := fun q : Addr × Px => encP q.2) (R := fun u q => u = Value.ref q.1) gL (each_map1 fun _ _ => rfl)
    (each_map1 fun q hq => ⟨[], reads_P (isT_keep (tk q (pN.mem_iff.mp hq)) old), List.not_mem_nil⟩) (PySem.W.AllAlike.of fun b b' => by simp [encP, PySem.W.alike, PySem.W.alikeAll]) (PySem.W.Sortable.tuples fun b => ⟨_, _, rfl⟩) (by rw [sizeLine_eq]; omega)
    (fun b _ => ?hu) fun out hl E => ?_))
  case hu =>
    have e : (encP b.2).depth ≤ 8 := by simp [encP, PyData.depth, PyData.depthAll]
    show X.A.units + 1 + 1 + (encP b.2).depth < cLine
    omega
  have eo := each_is E
  subst eo
  obtain ⟨c, hc2⟩ := sortedHeap_at (vs := N.map fun q => Value.ref q.1) (out := ((N.mergeSort (PySem.W.dataLe false fun q => encP q.2)).map fun q => Value.ref q.1).toArray) gL
  have keep : ∀ b u, s.heap.get? b = some u → (sortedHeap (s1.heap.push (seqObj "list" (N.map fun q => Value.ref q.1).toArray 0)) s1.heap.objs.size (N.map fun q => Value.ref q.1) ((N.mergeSort (PySem.W.dataLe false fun q => encP q.2)).map fun q => Value.ref q.1).toArray).get? b = some u := fun b u e => by
    have lt := Heap.lt_size (k1 b u e)
    rw [sortedHeap_old (Nat.ne_of_lt lt) (by rw [Heap.size_push]; exact Nat.lt_succ_of_lt lt)]
    exact old b u e
  have free : H s1.heap.objs.size = none := I.hok.fresh hz
  refine wpAny_pure ⟨_, rfl, .ref s1.heap.objs.size, upd H s1.heap.objs.size (.lst ((N.mergeSort (PySem.W.dataLe false fun q => encP q.2)).map fun q => V.ref q.1)), ?_, rfl, q _ _ free ?_⟩
  · refine I.call' (ch := []) o1 (Un.laid keep hz free) (I.hok.laid keep hz ⟨?_, _, c, ?_, hc2⟩) (by rw [show _ = s.gens from g1]; exact I.bare) fun _ z => nomatch z
    · rw [List.length_map, List.length_mergeSort, sizeLine_eq]
      omega
    · generalize N.mergeSort (PySem.W.dataLe false fun q => encP q.2) = l
      induction l with
      | nil => exact .nil
      | cons x l ih => exact .cons rfl ih
  · have hN : ∀ q ∈ N.mergeSort (PySem.W.dataLe false fun q => encP q.2), IsP H (.ref q.1) q.2 := fun q hq => hM q (pN.mem_iff.mp ((List.mergeSort_perm _ _).mem_iff.mp hq))
    have e : canon (M.map (·.2)) = (N.mergeSort (PySem.W.dataLe false fun q => encP q.2)).map (·.2) := by
      rw [sort_snd N dN]
      exact canon_eq fun z => ((pN.map (·.2)).mem_iff).symm
    rw [e]
    revert hN
    generalize N.mergeSort (PySem.W.dataLe false fun q => encP q.2) = l
    intro hN
    induction l with
    | nil => exact .nil
    | cons x l ih => exact .cons (hN x List.mem_cons_self) (ih fun y hy => hN y (List.mem_cons_of_mem _ hy))
/-- set(a list of pixels) -/
def rSetOf (P : Program) (w : World) : List V → Hp → VK → Prop := fun vs H Q => ∃ (v : V) (ps : List Px), vs = [v] ∧ Pic H v ps ∧ ps.length < 64 ∧
  ∀ a M, H a = none → (∀ q ∈ M, IsP H (.ref q.1) q.2) → M.length ≤ 76 → (∀ z, z ∈ M.map (·.2) ↔ z ∈ ps) → Q (.ref a) (upd H a (SetPO P w a M))
theorem refs_of {H : Hp} : ∀ {xs : List V} {ps : List Px}, Paired (IsP H) xs ps → ∃ ks : List (Addr × Px), xs = ks.map (fun q => V.ref q.1) ∧ ks.map (·.2) = ps ∧ ∀ q ∈ ks, IsP H (.ref q.1) q.2
  | _, _, .nil => ⟨[], rfl, rfl, fun _ h => nomatch h⟩
  | _, _, .cons ⟨a, e, ha⟩ t => by
    obtain ⟨ks, h1, h2, h3⟩ := refs_of t
    refine ⟨(a, _) :: ks, by rw [e, h1]; rfl, by rw [← h2]; rfl, fun q hq => ?_⟩
    rcases List.mem_cons.mp hq with rfl | hq
    · exact ⟨a, rfl, ha⟩
    · exact h3 q hq
theorem pl_sub {L : List (Addr × List Int)} {ks : List (Addr × Px)} (h : ∀ p ∈ L, p ∈ pl ks) : ∃ M : List (Addr × Px), L = pl M ∧ ∀ q ∈ M, q ∈ ks := by
  induction L with
  | nil => exact ⟨[], rfl, fun _ h => nomatch h⟩
  | cons p L ih =>
    obtain ⟨M, e, hM⟩ := ih fun p hp => h p (List.mem_cons_of_mem _ hp)
    obtain ⟨q, hq, eq⟩ := List.mem_map.mp (h p List.mem_cons_self)
    refine ⟨q :: M, by rw [e, ← eq]; rfl, fun r hr => ?_⟩
    rcases List.mem_cons.mp hr with rfl | hr
    · exact hq
    · exact hM r hr
theorem cr_setOf {X : Cx} (hc : X.calm = true) (hu : X.A.units + 64 < cLine) : CallR X (.type "set") (rSetOf X.prog X.w) := by
  intro pins s σ H xs us Q I r h
  obtain ⟨v, ps, rfl, ⟨l, ys, rfl, hl, hp⟩, hn, q⟩ := h
  obtain ⟨ks, e1, e2, hk⟩ := refs_of hp
  subst e1
  rw [Vals.ref1 r]
  obtain ⟨its, rv, plain, hz⟩ := I.list (SqL.of (K := X.K) hl)
  have lk : ks.length = ps.length := by rw [← e2, List.length_map]
  have hits : its = ks.map fun q => Value.ref q.1 := by
    clear hl hp hk e2 lk plain hz
    generalize eu : ks.map (fun q => V.ref q.1) = us at rv
    induction rv generalizing ks with
    | nil => cases ks with | nil => rfl | cons => cases eu
    | cons h t ih =>
      cases ks with
      | nil => cases eu
      | cons k ks =>
        injection eu with a b
        subst a
        rw [ih ks b]
        cases h
        rfl
  have hf : H s.heap.objs.size = none := I.hok.fresh (Nat.le_refl _)
  refine call_set_tups (P := X.prog) (w := X.w) (pl ks) (I.ok.hd hc) plain.isList ?_ (fun p hp => ?_) (by unfold pl; rw [List.length_map]; omega) (by omega) fun h' tk L es ep t R g keep => ?_
  · rw [List.toList_toArray, hits]
    unfold pl
    rw [List.map_map]
    rfl
  · obtain ⟨q, hq, rfl⟩ := List.mem_map.mp hp
    exact Inv_isT I (hk q hq)
  · obtain ⟨M, rfl, hM⟩ := pl_sub fun p hp => List.mem_of_mem_take (g.sub p hp)
    have S : SetQ X.prog X.w h' s.heap.objs.size (pl M) es ep t := ⟨R.ob, R.rows, R.tab, R.nd, R.tup, R.plain, R.led, R.room⟩
    refine ⟨.ref s.heap.objs.size, upd H s.heap.objs.size (SetPO X.prog X.w s.heap.objs.size M), I.laid (t' := tk) keep (Nat.le_refl _) (setPO_ok S.p0), rfl, q _ M hf (fun q hq => hk q (hM q hq)) ?_ fun z => ?_⟩
    · have := R.few
      unfold pl at this
      rw [List.length_map] at this
      omega
    · rw [← pl_dif, ← e2]
      constructor
      · intro hz
        obtain ⟨q, hq, e⟩ := List.mem_map.mp ((pl_dif M z).mp hz)
        exact List.mem_map.mpr ⟨q, hM q hq, e⟩
      · intro hz
        obtain ⟨q, hq, e⟩ := List.mem_map.mp hz
        subst e
        exact g.all (q.1, [q.2.1, q.2.2]) (by rw [List.take_length]; exact List.mem_map.mpr ⟨q, hq, rfl⟩)
end TP


set_option Elab.async false
set_option linter.all false
set_option maxRecDepth 100000
set_option maxHeartbeats 4000000
namespace TP
open PySem PySem.Spec PyProof.Rows L2
open C8 (Cal pe_c pe_gc)
section
variable {P : Program} {w : World} {K : PySem.W.Frag} {mg : Str → Option Value} {base : Heap}


theorem hu3 {k : Nat} {A : Around} (hr : Room k A) : A.units + 3 < cLine := Nat.lt_of_le_of_lt (Nat.add_le_add_left (by decide : 3 ≤ 64) _) hr.units
theorem TSm.upd {H : Hp} {D : Addr} {o o' : HO} (h : H D = some o) (hn : ∀ xs, o ≠ .tup xs) : TSm H (upd H D o') := fun b xs e => by
  rw [upd_ne (ne_of e h fun z => hn xs z.symm)]
  exact e
theorem mem_take_map {α β : Type} {f : α → β} {l : List α} {i : Nat} {x : α} (h : l[i]? = some x) (z : β) : z ∈ (l.take (i + 1)).map f ↔ z ∈ (l.take i).map f ∨ z = f x := by
  rw [take_snoc h, List.map_append, List.mem_append]
  exact or_congr_right List.mem_singleton
theorem canon_app : ∀ (m l : List Px), (canon l).length ≤ (canon (l ++ m)).length
  | [], l => by rw [List.append_nil]; exact Nat.le_refl _
  | x :: m, l => by
    have h := canon_app m (l ++ [x])
    rw [canon_more, List.append_assoc] at h
    exact Nat.le_trans (Nat.le_add_right _ _) h
theorem canon_take {f : Px → Px} (ps : List Px) (i : Nat) : (canon ((ps.take i).map f)).length ≤ (canon (ps.map f)).length := by
  have h := canon_app ((ps.drop i).map f) ((ps.take i).map f)
  rwa [← List.map_append, List.take_append_drop] at h
/-- a comprehension that makes a set of pixels of a list -/
theorem sc_mapP {P : Program} {w : World} {K : PySem.W.Frag} (f : Px → Px) {a : Addr} {xs : List V} {ps : List Px} {i0 : Nat} {te : TE} {σ : L2.St} {H1 : Hp} {D : Addr} {Qd : Hp → Prop} (hD : H1 D = none)
    (ha : H1 a = some (.lst xs)) (hp : Paired (IsP H1) xs ps) (few : (canon (ps.map f)).length ≤ 75)
    (step : ∀ (i : Nat) (x : V) (d : Px) (H : Hp) (Q : VK), ps[i]? = some d → Same H1 H → IsP H x d → (∀ b H', Same H H' → IsP H' (.ref b) (f d) → Q (.ref b) H') → te ((wipe σ [i0]).set i0 (some x)) H Q)
    (fin : ∀ H M, Same H1 H → H D = some (SetPO P w D M) → (∀ q ∈ M, IsP H (.ref q.1) q.2) → M.length ≤ 76 → (∀ z, z ∈ M.map (·.2) ↔ z ∈ ps.map f) → Qd H) :
    ∃ W : Nat → Nat → Hp → Prop, (∃ m, W 0 m (upd H1 D (SetPO P w D []))) ∧ ∀ i m H, W i m H →
      ((Itl K a).stop i H ∧ Qd H) ∨ ((Itl K a).go i H ∧ ∃ Nx : Hp → Prop, (∀ H', Nx H' → ∃ m', m' < m ∧ W (i + 1) m' H') ∧ ∀ x H', (Itl K a).yld i H x H' → gName i0 x (wipe σ [i0]) H' fun σ2 H2 => wipe σ2 [i0] = wipe σ [i0] ∧ te σ2 H2 fun y H4 =>
        ∃ (b : Addr) (z : Px) (M : List (Addr × Px)), y = .ref b ∧ IsP H4 (.ref b) z ∧ H4 D = some (SetPO P w D M) ∧ (∀ q ∈ M, IsP H4 (.ref q.1) q.2) ∧ M.length < 76 ∧
          ∀ M', (z ∈ M.map (·.2) → M' = M) → (z ∉ M.map (·.2) → M'.Perm ((b, z) :: M)) → Nx (upd H4 D (SetPO P w D M'))) := by
  have notup : ∀ M xs, SetPO P w D M ≠ .tup xs := fun M xs e => by cases e
  refine ⟨fun i m H => m = xs.length - i ∧ i ≤ xs.length ∧ Same H1 H ∧ ∃ M, H D = some (SetPO P w D M) ∧ (∀ q ∈ M, IsP H (.ref q.1) q.2) ∧ (M.map (·.2)).Nodup ∧ ∀ z, z ∈ M.map (·.2) ↔ z ∈ (ps.take i).map f,
    ⟨xs.length, rfl, Nat.zero_le _, sm_new hD, [], upd_same, fun _ h => (nomatch h), List.nodup_nil, fun z => Iff.rfl⟩, ?_⟩
  rintro i m H ⟨rfl, hi, e, M, hM, hP, nd, mem⟩
  have q : SqL K H a xs := .of (e _ _ ha)
  have lenM : M.length = (canon ((ps.take i).map f)).length := by
    rw [← List.length_map (f := fun q : Addr × Px => q.2)]
    exact len_same nd (asc_canon _).nodup fun z => (mem z).trans mem_canon.symm
  have le75 : M.length ≤ 75 := by
    rw [lenM]
    exact Nat.le_trans (canon_take ps i) few
  by_cases lt : i < xs.length
  · refine .inr ⟨⟨xs, xs[i], q, List.getElem?_eq_getElem lt⟩, fun H' => i + 1 ≤ xs.length ∧ Same H1 H' ∧ ∃ M, H' D = some (SetPO P w D M) ∧ (∀ q ∈ M, IsP H' (.ref q.1) q.2) ∧ (M.map (·.2)).Nodup ∧ ∀ z, z ∈ M.map (·.2) ↔ z ∈ (ps.take (i + 1)).map f,
      fun H' p' => ⟨xs.length - (i + 1), by omega, rfl, p'⟩, fun x H' y => ?_⟩
    obtain ⟨rfl, y⟩ := y
    have hx := y xs q
    obtain ⟨d, hd, hr⟩ := Paired.at hp hx
    refine ⟨wipe1 σ i0 x, step i x d H' _ hd e (tpl_P _ _ _ _ (sm_t e) hr) fun b H4 e4 hb => ⟨b, f d, M, rfl, hb, e4 _ _ hM, fun q hq => (hP q hq).same e4, by omega, fun M' c1 c2 => ?_⟩⟩
    have ts : TSm H4 (upd H4 D (SetPO P w D M')) := TSm.upd (e4 _ _ hM) (notup M)
    have base : Same H1 (upd H4 D (SetPO P w D M')) := sm_mut (e.trans e4) hD
    by_cases hz : f d ∈ M.map (·.2)
    · have eM := c1 hz
      subst eM
      refine ⟨lt, base, M', upd_same, fun q hq => tpl_P _ _ _ _ ts ((hP q hq).same e4), nd, fun z => ?_⟩
      rw [mem_take_map hd, mem z]
      exact ⟨.inl, fun h => h.elim id fun h => by rw [h]; exact (mem _).mp hz⟩
    · have pm := c2 hz
      refine ⟨lt, base, M', upd_same, fun q hq => ?_, ?_, fun z => ?_⟩
      · rcases List.mem_cons.mp (pm.mem_iff.mp hq) with e' | hq
        · subst e'
          exact tpl_P _ _ _ _ ts hb
        · exact tpl_P _ _ _ _ ts ((hP q hq).same e4)
      · exact (pm.map (·.2)).nodup_iff.mpr (List.nodup_cons.mpr ⟨hz, nd⟩)
      · rw [mem_take_map hd, ← mem z, (pm.map (·.2)).mem_iff]
        exact ⟨fun h => (List.mem_cons.mp h).elim .inr .inl, fun h => h.elim (List.mem_cons_of_mem _) fun h => by rw [h]; exact List.mem_cons_self⟩
  · have ei : i = xs.length := by omega
    subst ei
    rw [hp.length, List.take_length] at mem
    exact .inl ⟨⟨xs, q, Nat.le_refl _⟩, fin H M e hM hP (by omega) mem⟩

def s_shear_chain : Sp := fun vs H Q _ => ∃ (v : V) (t : Tn) (o : Bool), vs = [v, .str (ordS o)] ∧ IsTn H v t ∧ Good t ∧ ∀ H' v', Same H H' → Q v' H'
theorem sc_shear_chain : FnScope ["turn", "order"] ["turn", "order"] (defScope (top 42)) := ⟨rfl, rfl, rfl, by decide +kernel, rfl, by decide +kernel, by decide +kernel⟩
theorem c_shear_chain (D : Dm K mg "shear_chain" (top 42)) (T : Fre mg) (h_chain_in : Cal P w K mg base 2 "chain_in" s_chain_in []) (h_need_order : Cal P w K mg base 1 "need_order" s_need_order []) (h_need_turn : Cal P w K mg base 4 "need_turn" s_need_turn [])  : Cal P w K mg base 5 "shear_chain" s_shear_chain [] := by
  refine cal_of D sc_shear_chain (fun _ _ _ _ _ _ us hl => match us, hl with | [_, _], _ => rfl) (fun vs H Q E h => ?_) (fun f cdv A outer s H vs Q E hr h => ?_)
  · obtain ⟨_, _, _, rfl, _⟩ := h
    rfl
  · obtain ⟨v, t, o, rfl, hv, g, k⟩ := h
    refine ⟨_, (pss_cons (ps_expr (pe_c h_need_turn hr (by decide) (by rfl) (pa_cons (pv 0) pa_nil))) (pss_cons (ps_expr (pe_c h_need_order hr (by decide) (by rfl) (pa_cons (pv 1) pa_nil))) (pss_one (ps_ret (pe_c h_chain_in hr (by decide) (by rfl) (pa_cons (pv 0) (pa_cons (pv 1) pa_nil))))))), ?_⟩
    exact ⟨_, rfl, v, t, rfl, hv, g, fun H1 e1 => ⟨_, rfl, o, rfl, fun H2 e2 => ⟨_, rfl, _, rfl, v, t, o, rfl, hv.same (e1.trans e2), g, fun H3 v3 e3 _ => k _ _ ((e1.trans e2).trans e3)⟩⟩⟩

theorem chain_len (t : Tn) (o : Bool) : (chainT t o).length = 3 := by cases o <;> rfl
def s_sheared : Sp := fun vs H Q _ => ∃ (v v2 : V) (t : Tn) (o : Bool) (z : Px) (n : Nat), vs = [v, .str (ordS o), v2] ∧ IsTn H v t ∧ Good t ∧ IsP H v2 z ∧ Bd n z ∧ n ≤ 4000 ∧ ∀ H' p, Same H H' → IsP H' (.ref p) (shearT t o z) → Q (.ref p) H'
theorem sc_sheared : FnScope ["turn", "order", "pixel"] ["turn", "order", "pixel"] (defScope (top 43)) := ⟨rfl, rfl, rfl, by decide +kernel, rfl, by decide +kernel, by decide +kernel⟩
theorem c_sheared (D : Dm K mg "sheared" (top 43)) (T : Fre mg) (h_quartered : Cal P w K mg base 1 "quartered" s_quartered []) (h_after_steps : Cal P w K mg base 3 "after_steps" s_after_steps []) (h_chain_in : Cal P w K mg base 2 "chain_in" s_chain_in []) (h_need_sheared : Cal P w K mg base 5 "need_sheared" s_need_sheared [])  : Cal P w K mg base 6 "sheared" s_sheared [] := by
  refine cal_of D sc_sheared (fun _ _ _ _ _ _ us hl => match us, hl with | [_, _, _], _ => rfl) (fun vs H Q E h => ?_) (fun f cdv A outer s H vs Q E hr h => ?_)
  · obtain ⟨_, _, _, _, _, _, rfl, _⟩ := h
    rfl
  · obtain ⟨v, v2, t, o, z, n, rfl, hv, g, hv2, hb, hn, k⟩ := h
    refine ⟨_, (pss_cons (ps_expr (pe_c h_need_sheared hr (by decide) (by rfl) (pa_cons (pv 0) (pa_cons (pv 1) (pa_cons (pv 2) pa_nil))))) (pss_one (ps_ret (pe_c h_quartered hr (by decide) (by rfl) (pa_cons (pe_c h_after_steps hr (by decide) (by rfl) (pa_cons (pe_c h_chain_in hr (by decide) (by rfl) (pa_cons (pv 0) (pa_cons (pv 1) pa_nil))) (pa_cons (pv 2) pa_nil))) (pa_cons (pe_ix (r := rIxT K) ix_tup (pv 0) pe_int (fun _ _ => rfl)) pa_nil)))))), ?_⟩
    refine ⟨_, rfl, _, rfl, _, rfl, v, v2, t, o, z, rfl, hv, g, hv2, fun H1 e1 => ?_⟩
    refine ⟨_, rfl, _, rfl, v, t, o, rfl, hv.same e1, g, fun H2 v3 e2 hc => ?_⟩
    refine ⟨_, rfl, v3, v2, chainT t o, z, n, rfl, hc, chain_good g o, hv2.same (e1.trans e2), hb, by rw [chain_len]; omega, fun H3 v4 e3 h4 => ?_⟩
    have e123 := (e1.trans e2).trans e3
    obtain ⟨a, rfl, ha⟩ := hv
    refine ⟨_, rfl, a, _, 2, _, rfl, rfl, SqT.of (e123 _ _ ha), rfl, ?_⟩
    exact ⟨v4, _, t.2.2, rfl, h4, fun H4 p e4 hp => k _ p (e123.trans e4) ⟨p, rfl, hp⟩⟩

def s_unsheared : Sp := fun vs H Q _ => ∃ (v v2 : V) (t : Tn) (o : Bool) (z : Px) (n : Nat), vs = [v, .str (ordS o), v2] ∧ IsTn H v t ∧ Good t ∧ IsP H v2 z ∧ Bd n z ∧ n ≤ 4000 ∧ ∀ H' v', Same H H' → IsP H' v' (unshearT t o z) → Q v' H'
theorem sc_unsheared : FnScope ["turn", "order", "pixel"] ["turn", "order", "pixel"] (defScope (top 44)) := ⟨rfl, rfl, rfl, by decide +kernel, rfl, by decide +kernel, by decide +kernel⟩
theorem c_unsheared (D : Dm K mg "unsheared" (top 44)) (T : Fre mg) (h_before_steps : Cal P w K mg base 3 "before_steps" s_before_steps []) (h_quartered : Cal P w K mg base 1 "quartered" s_quartered []) (h_chain_in : Cal P w K mg base 2 "chain_in" s_chain_in []) (h_need_sheared : Cal P w K mg base 5 "need_sheared" s_need_sheared [])  : Cal P w K mg base 6 "unsheared" s_unsheared [] := by
  refine cal_of D sc_unsheared (fun _ _ _ _ _ _ us hl => match us, hl with | [_, _, _], _ => rfl) (fun vs H Q E h => ?_) (fun f cdv A outer s H vs Q E hr h => ?_)
  · obtain ⟨_, _, _, _, _, _, rfl, _⟩ := h
    rfl
  · obtain ⟨v, v2, t, o, z, n, rfl, hv, g, hv2, hb, hn, k⟩ := h
    refine ⟨_, (pss_cons (ps_expr (pe_c h_need_sheared hr (by decide) (by rfl) (pa_cons (pv 0) (pa_cons (pv 1) (pa_cons (pv 2) pa_nil))))) (pss_one (ps_ret (pe_c h_before_steps hr (by decide) (by rfl) (pa_cons (pe_c h_chain_in hr (by decide) (by rfl) (pa_cons (pv 0) (pa_cons (pv 1) pa_nil))) (pa_cons (pe_c h_quartered hr (by decide) (by rfl) (pa_cons (pv 2) (pa_cons (pe_un un_neg (pe_ix (r := rIxT K) ix_tup (pv 0) pe_int (fun _ _ => rfl))) pa_nil))) pa_nil)))))), ?_⟩
    refine ⟨_, rfl, _, rfl, _, rfl, v, v2, t, o, z, rfl, hv, g, hv2, fun H1 e1 => ?_⟩
    refine ⟨_, rfl, _, rfl, v, t, o, rfl, hv.same e1, g, fun H2 v3 e2 hc => ?_⟩
    have e12 := e1.trans e2
    obtain ⟨a, rfl, ha⟩ := hv
    refine ⟨_, rfl, _, rfl, a, _, 2, _, rfl, rfl, SqT.of (e12 _ _ ha), rfl, _, rfl, ?_⟩
    refine ⟨v2, z, _, rfl, hv2.same e12, fun H3 p e3 hp => ?_⟩
    refine ⟨v3, .ref p, chainT t o, quart z (-t.2.2), n, rfl, IsL.same tpl_S e3 hc, chain_good g o, ⟨p, rfl, hp⟩, rot_bd _ hb, by rw [chain_len]; omega, fun H4 v4 e4 h4 => ?_⟩
    exact k _ v4 ((e12.trans e3).trans e4) h4


def GoodW (ts : List Tn) : Prop := ∀ t ∈ ts, Good t ∧ Keep t
def walkT (ts : List Tn) (z : Px) : Px := ts.foldl (fun z t => img t z) z
def backW (ts : List Tn) : List Tn := ts.reverse.map backT
theorem GoodW.back {ts : List Tn} (g : GoodW ts) : GoodW (backW ts) := fun t ht => by
  obtain ⟨u, hu, rfl⟩ := List.mem_map.mp ht
  have h := g u (List.mem_reverse.mp hu)
  exact ⟨h.1.back, h.2.back⟩
theorem walk_back : ∀ {ts : List Tn} (_ : GoodW ts) (z : Px), walkT (backW ts) (walkT ts z) = z
  | [], _, z => rfl
  | t :: ts, g, z => by
    have ih := walk_back (ts := ts) (fun u hu => g u (List.mem_cons_of_mem _ hu)) (img t z)
    have h := g t List.mem_cons_self
    unfold walkT backW at ih ⊢
    rw [List.reverse_cons, List.map_append, List.foldl_append]
    show img (backT t) (List.foldl (fun z t => img t z) (List.foldl (fun z t => img t z) (img t z) ts) (ts.reverse.map backT)) = z
    rw [ih]
    exact back_img h.1 h.2 z
theorem walk_bd {ts : List Tn} (g : GoodW ts) {n : Nat} {z : Px} (h : Bd n z) : ∀ i, Bd (n + 2 * i) (walkT (ts.take i) z)
  | 0 => h
  | i + 1 => by
    have ih := walk_bd g h i
    cases e : ts[i]? with
    | none =>
      have hl : ts.length ≤ i := List.getElem?_eq_none_iff.mp e
      rw [List.take_of_length_le hl] at ih
      rw [List.take_of_length_le (Nat.le_succ_of_le hl)]
      exact ih.mono (by omega)
    | some t =>
      unfold walkT at ih ⊢
      rw [foldl_take e]
      exact img_bd (g t (List.mem_of_getElem? e)).1.pos ih

def s_way_fault : Sp := fun vs H Q _ => ∃ (v : V) (ts : List Tn), vs = [v] ∧ Way H v ts ∧ GoodW ts ∧ ts.length ≤ 120 ∧ ∀ H' p, Same H H' → H' p = some (.tup []) → Q (.ref p) H'
theorem sc_way_fault : FnScope ["value", "index", "item"] ["value"] (defScope (top 47)) := ⟨rfl, rfl, rfl, by decide +kernel, rfl, by decide +kernel, by decide +kernel⟩
theorem c_way_fault (D : Dm K mg "way_fault" (top 47)) (T : Fre mg) (h_is_keeping : Cal P w K mg base 1 "is_keeping" s_is_keeping []) (h_is_turn : Cal P w K mg base 3 "is_turn" s_is_turn [])  : Cal P w K mg base 4 "way_fault" s_way_fault [] := by
  refine cal_of D sc_way_fault (fun _ _ _ _ _ _ us hl => match us, hl with | [_], _ => rfl) (fun vs H Q E h => ?_) (fun f cdv A outer s H vs Q E hr h => ?_)
  · obtain ⟨_, _, rfl, _⟩ := h
    rfl
  · obtain ⟨v, ts, rfl, ⟨a, xs, rfl, ha, hp⟩, g, hl, k⟩ := h
    refine ⟨_, (pss_cons (ps_if (PW.pt (pw_or (pt_not (pt_val (pe_callB call_isi (by rfl) T.isi boot_isinstance (pa_cons (pv 0) (pa_cons (pe_bltn (v := .ty "list") (u := .type "list") (by rfl) T.lst (by decide +kernel) rfl) pa_nil))))) (pw_or1 (pt_cmpR op_gt (pe_callB call_len_seq (by rfl) T.len PySem.boot_len (pa_cons (pv 0) pa_nil)) (pe_gc (by rfl) T.mostItems) (nomark _))))) (pss_one (ps_ret (pe_tup (pa_cons pe_non pa_nil)))) pss_nil) (pss_cons (ps_for PassesOwn.never rfl (pi_enum (by rfl) T.enu (pa_cons (pv 0) pa_nil)) (pg_tup (by rfl) (pgs_cons (pg_name (i := 1) sc_way_fault.nd rfl (Or.inl rfl)) (pgs_cons (pg_name (i := 2) sc_way_fault.nd rfl (Or.inl rfl)) pgs_nil))) (pss_one (ps_if (PW.pt (pw_or (pt_not (pt_val (pe_c h_is_turn hr (by decide) (by rfl) (pa_cons (pv 2) pa_nil)))) (pw_or1 (pt_not (pt_val (pe_c h_is_keeping hr (by decide) (by rfl) (pa_cons (pv 2) pa_nil))))))) (pss_one (ps_ret (pe_tup (pa_cons (pv 1) pa_nil)))) pss_nil))) (pss_one (ps_ret (pe_tup pa_nil))))), ?_⟩
    refine ⟨_, rfl, _, _, _, _, true, rfl, .ty _, .base (.lst ha), kit_ty (by decide +kernel), true, rfl, ?_⟩
    refine iteF ?_
    refine ⟨_, rfl, a, _, rfl, .inl (SqL.of ha), _, _, rfl, rfl, _, rfl, ?_⟩
    have hx : xs.length = ts.length := hp.length
    refine ifN (by omega) ?_
    refine ⟨_, rfl, a, xs, rfl, SqL.of ha, for_it (walk_enum (xs := xs)) (fun i σ H' => ∃ v1 v2, σ = [some (.ref a), v1, v2] ∧ Same H H') ⟨none, none, rfl, Same.refl _⟩ (fun i σ H' _ ⟨_, _, _, e⟩ => SqL.of (e _ _ ha)) ?_ ?_⟩
    · rintro i x σ H1 H2 hi ⟨v1, v2, rfl, e1⟩ ⟨T, y, x', rfl, hT, rfl, hy, hx'⟩
      obtain rfl : V.int (i : Nat) = y := Option.some.inj hy
      obtain ⟨t, ht, htp⟩ := Paired.at hp hx'
      have gt := g t (List.mem_of_getElem? ht)
      have e3 := e1.trans (sm_new (o := .tup [.int (i : Nat), x']) hT)
      refine ⟨T, _, rfl, SqT.of upd_same, rfl, _, _, rfl, _, _, rfl, rfl, ?_⟩
      refine ⟨_, rfl, x', t, rfl, htp.same e3, gt.1, fun H3 e4 => ⟨true, rfl, ?_⟩⟩
      refine iteF ?_
      refine ⟨_, rfl, x', t, rfl, htp.same (e3.trans e4), decide (Keep t), rfl, ?_⟩
      rw [decide_eq_true gt.2]
      exact iteF ⟨_, _, rfl, e3.trans e4⟩
    · rintro σ H1 ⟨v1, v2, rfl, e1⟩
      exact ⟨Nat.zero_le _, fun p np => k _ p (e1.trans (sm_new np)) upd_same⟩

def s_need_way : Sp := fun vs H Q _ => ∃ (v : V) (ts : List Tn), vs = [v] ∧ Way H v ts ∧ GoodW ts ∧ ts.length ≤ 120 ∧ ∀ H', Same H H' → Q .non H'
theorem sc_need_way : FnScope ["way", "fault"] ["way"] (defScope (top 48)) := ⟨rfl, rfl, rfl, by decide +kernel, rfl, by decide +kernel, by decide +kernel⟩
theorem c_need_way (D : Dm K mg "need_way" (top 48)) (T : Fre mg) (h_way_fault : Cal P w K mg base 4 "way_fault" s_way_fault [])  : Cal P w K mg base 5 "need_way" s_need_way [] := by
  refine cal_of D sc_need_way (fun _ _ _ _ _ _ us hl => match us, hl with | [_], _ => rfl) (fun vs H Q E h => ?_) (fun f cdv A outer s H vs Q E hr h => ?_)
  · obtain ⟨_, _, rfl, _⟩ := h
    rfl
  · obtain ⟨v, ts, rfl, hv, g, hl, k⟩ := h
    refine ⟨_, (pss_cons (ps_set (i := 1) sc_need_way.nd rfl (Or.inl rfl) (pe_c h_way_fault hr (by decide) (by rfl) (pa_cons (pv 0) pa_nil))) (pss_one (ps_if (pt_cmpR (op_neD hr.units) (pv 1) (pe_tup pa_nil) (nomark _)) (pss_one ps_never) pss_nil))), ?_⟩
    refine ⟨_, rfl, v, ts, rfl, hv, g, hl, fun H1 p e1 hp => ?_⟩
    refine ⟨_, rfl, Nat.zero_le _, fun p2 np2 => ?_⟩
    refine ⟨.tuple [], .tuple [], .tup (SqT.of (sm_new np2 _ _ hp)) .nil, .tup (SqT.of upd_same) .nil, by decide +kernel, by decide +kernel, false, by rfl, ?_⟩
    exact iteF (k _ (e1.trans (sm_new np2)))

def s_along : Sp := fun vs H Q _ => ∃ (v v2 : V) (ts : List Tn) (z : Px) (n : Nat), vs = [v, v2] ∧ Way H v ts ∧ GoodW ts ∧ IsP H v2 z ∧ Bd n z ∧ n + 2 * ts.length ≤ 5000 ∧ ∀ H' v', Same H H' → IsP H' v' (walkT ts z) → Q v' H'
theorem sc_along : FnScope ["way", "pixel", "item"] ["way", "pixel"] (defScope (top 49)) := ⟨rfl, rfl, rfl, by decide +kernel, rfl, by decide +kernel, by decide +kernel⟩
theorem c_along (D : Dm K mg "along" (top 49)) (T : Fre mg) (h_image_in : Cal P w K mg base 4 "image_in" s_image_in [])  : Cal P w K mg base 5 "along" s_along [] := by
  refine cal_of D sc_along (fun _ _ _ _ _ _ us hl => match us, hl with | [_, _], _ => rfl) (fun vs H Q E h => ?_) (fun f cdv A outer s H vs Q E hr h => ?_)
  · obtain ⟨_, _, _, _, _, rfl, _⟩ := h
    rfl
  · obtain ⟨v, v2, ts, z, n, rfl, ⟨a, xs, rfl, ha, hp⟩, g, hv2, hb, hn, k⟩ := h
    refine ⟨_, (pss_cons (ps_for PassesOwn.never rfl (pi_list (pv 0)) (pg_name (i := 2) sc_along.nd rfl (Or.inl rfl)) (pss_one (ps_set (i := 1) sc_along.nd rfl (Or.inl rfl) (pe_c h_image_in hr (by decide) (by rfl) (pa_cons (pv 2) (pa_cons (pv 1) pa_nil)))))) (pss_one (ps_ret (pv 1)))), ?_⟩
    refine ⟨_, rfl, a, rfl, ⟨_, SqL.of ha⟩, for_list (xs := xs) (fun i σ H' => ∃ pv sv, σ = [some (.ref a), some pv, sv] ∧ Same H H' ∧ IsP H' pv (walkT (ts.take i) z)) ⟨v2, none, rfl, Same.refl _, hv2⟩ (fun i σ H' _ ⟨_, _, _, e, _⟩ => SqL.of (e _ _ ha)) ?_ ?_⟩
    · rintro i x σ H1 hx ⟨pv, sv, rfl, e1, hz1⟩
      obtain ⟨t, ht, hx2⟩ := Paired.at hp hx
      have hi : i < ts.length := (List.getElem?_eq_some_iff.mp ht).1
      refine ⟨_, rfl, _, rfl, x, pv, t, _, rfl, hx2.same e1, (g t (List.mem_of_getElem? ht)).1, hz1, (walk_bd g hb i).mono (by omega), fun H2 p e2 hp2 => ?_⟩
      refine ⟨_, _, rfl, e1.trans e2, p, rfl, ?_⟩
      unfold walkT
      rw [foldl_take ht]
      exact hp2
    · rintro σ H1 ⟨pv, sv, rfl, e1, hz1⟩
      refine ⟨_, rfl, ?_⟩
      rw [hp.length, List.take_length] at hz1
      exact k _ _ e1 hz1

def s_walked : Sp := fun vs H Q _ => ∃ (v v2 : V) (ts : List Tn) (z : Px) (n : Nat), vs = [v, v2] ∧ Way H v ts ∧ GoodW ts ∧ ts.length ≤ 120 ∧ IsP H v2 z ∧ Bd n z ∧ n ≤ 4000 ∧ ∀ H' v', Same H H' → IsP H' v' (walkT ts z) → Q v' H'
theorem sc_walked : FnScope ["way", "pixel"] ["way", "pixel"] (defScope (top 50)) := ⟨rfl, rfl, rfl, by decide +kernel, rfl, by decide +kernel, by decide +kernel⟩
theorem c_walked (D : Dm K mg "walked" (top 50)) (T : Fre mg) (h_along : Cal P w K mg base 5 "along" s_along []) (h_need_pixel : Cal P w K mg base 4 "need_pixel" s_need_pixel []) (h_need_way : Cal P w K mg base 5 "need_way" s_need_way [])  : Cal P w K mg base 6 "walked" s_walked [] := by
  refine cal_of D sc_walked (fun _ _ _ _ _ _ us hl => match us, hl with | [_, _], _ => rfl) (fun vs H Q E h => ?_) (fun f cdv A outer s H vs Q E hr h => ?_)
  · obtain ⟨_, _, _, _, _, rfl, _⟩ := h
    rfl
  · obtain ⟨v, v2, ts, z, n, rfl, hv, g, hl, hv2, hb, hn, k⟩ := h
    refine ⟨_, (pss_cons (ps_expr (pe_c h_need_way hr (by decide) (by rfl) (pa_cons (pv 0) pa_nil))) (pss_cons (ps_expr (pe_c h_need_pixel hr (by decide) (by rfl) (pa_cons (pv 1) pa_nil))) (pss_one (ps_ret (pe_c h_along hr (by decide) (by rfl) (pa_cons (pv 0) (pa_cons (pv 1) pa_nil))))))), ?_⟩
    refine ⟨_, rfl, v, ts, rfl, hv, g, hl, fun H1 e1 => ⟨_, rfl, v2, z, rfl, hv2.same e1, fun H2 e2 => ?_⟩⟩
    exact ⟨_, rfl, _, rfl, v, v2, ts, z, n, rfl, hv.same (e1.trans e2), g, hv2.same (e1.trans e2), hb, by omega, fun H3 v3 e3 h3 => k _ _ ((e1.trans e2).trans e3) h3⟩

def s_way_bound : Sp := fun vs H Q _ => ∃ (v : V) (ts : List Tn), vs = [v] ∧ Way H v ts ∧ GoodW ts ∧ ts.length ≤ 120 ∧ ∀ H' v', Same H H' → Q v' H'
theorem sc_way_bound : FnScope ["way", "many", "item"] ["way"] (defScope (top 51)) := ⟨rfl, rfl, rfl, by decide +kernel, rfl, by decide +kernel, by decide +kernel⟩
theorem c_way_bound (D : Dm K mg "way_bound" (top 51)) (T : Fre mg) (h_lowest : Cal P w K mg base 2 "lowest" s_lowest []) (h_need_way : Cal P w K mg base 5 "need_way" s_need_way [])  : Cal P w K mg base 6 "way_bound" s_way_bound [] := by
  refine cal_of D sc_way_bound (fun _ _ _ _ _ _ us hl => match us, hl with | [_], _ => rfl) (fun vs H Q E h => ?_) (fun f cdv A outer s H vs Q E hr h => ?_)
  · obtain ⟨_, _, rfl, _⟩ := h
    rfl
  · obtain ⟨v, ts, rfl, ⟨a, xs, rfl, ha, hp⟩, g, hl, k⟩ := h
    refine ⟨_, (pss_cons (ps_expr (pe_c h_need_way hr (by decide) (by rfl) (pa_cons (pv 0) pa_nil))) (pss_cons (ps_set (i := 1) sc_way_bound.nd rfl (Or.inl rfl) (pe_callB call_len_seq (by rfl) T.len PySem.boot_len (pa_cons (pe_lc (own := [("item", 2)]) (g := gName 2) (by rfl) sc_way_bound.nd (pi_list (pv 0)) (blkOk_by (own := [("item", 2)]) (N := ["way", "many", "item"]) (sc := (defScope (top 51))) (by decide +kernel)) (fun _ _ _ _ _ => pg_name (i := 2) sc_way_bound.nd rfl (Or.inl rfl)) (fun _ _ _ _ _ => (pts_one (pt_cmpR op_ne (pe_ix (r := rIxT K) ix_tup (pv 2) pe_int (fun _ _ => rfl)) pe_int (nomark _)))) (fun _ _ _ _ _ => (pv 2))) pa_nil))) (pss_one (ps_ret (pe_c h_lowest hr (by decide) (by rfl) (pa_cons (pe_op op_mul (pv 1) (pv 1)) (pa_cons pe_int pa_nil))))))), ?_⟩
    have hx : xs.length = ts.length := hp.length
    refine ⟨_, rfl, _, ts, rfl, ⟨a, xs, rfl, ha, hp⟩, g, hl, fun H1 e1 => ?_⟩
    refine ⟨_, rfl, a, rfl, ⟨_, SqL.of (e1 _ _ ha)⟩, fun D hD => lc_list (xs := xs) (fun i H' => Same H1 H' ∧ ∃ acc, H' D = some (.lst acc) ∧ acc.length ≤ i) ⟨sm_new hD, [], upd_same, Nat.le_refl _⟩ (fun i H' _ ⟨e, _⟩ => SqL.of (e _ _ (e1 _ _ ha))) ?_ ?_⟩
    · rintro i x H2 hxi ⟨e2, acc, hacc, hla⟩
      have hi : i < xs.length := (List.getElem?_eq_some_iff.mp hxi).1
      obtain ⟨t, ht, b, rfl, hb⟩ := Paired.at hp hxi
      refine ⟨rfl, _, rfl, b, _, 1, _, rfl, rfl, SqT.of (e2 _ _ (e1 _ _ hb)), rfl, rfl, _, rfl, ?_⟩
      refine ite2 (fun _ => ?_) (fun _ => ?_)
      · exact ⟨_, rfl, acc, hacc, small_lt (by omega), sm_mut e2 hD, _, upd_same, by rw [List.length_append]; exact Nat.succ_le_succ hla⟩
      · exact ⟨e2, acc, hacc, Nat.le_succ_of_le hla⟩
    · rintro H2 ⟨e2, acc, hacc, hla⟩
      refine ⟨D, acc, rfl, .inl (SqL.of hacc), ?_⟩
      exact ⟨_, rfl, _, rfl, _, _, rfl, rfl, .inl ⟨by omega, by omega⟩, _, rfl, fun H3 v3 e3 => k _ _ ((e1.trans e2).trans e3)⟩

end
end TP


set_option Elab.async false
set_option linter.all false
set_option maxRecDepth 100000
set_option maxHeartbeats 4000000
namespace TP
open PySem PySem.Spec PyProof.Rows L2
open C8 (Cal pe_c pe_gc)
section
variable {P : Program} {w : World} {K : PySem.W.Frag} {mg : Str → Option Value} {base : Heap}


theorem new_list {α : Type} {R : Hp → V → α → Prop} (m : Tpl R) {H : Hp} {p : Addr} {xs : List V} {ds : List α} (np : H p = none) (h : Paired (R H) xs ds) : IsL R (upd H p (.lst xs)) (.ref p) ds :=
  ⟨p, xs, rfl, upd_same, Paired.imp (fun x d q => m _ _ x d (sm_t (sm_new np)) q) h⟩
theorem free_of {H H' : Hp} {p : Addr} (e : Same H H') (h : H' p = none) : H p = none := by
  cases q : H p with
  | none => rfl
  | some u => rw [e _ _ q] at h; cases h
/-- a picture whose pixels turned fit into the set -/
def Few (t : Tn) (ps : List Px) : Prop := (canon (ps.map (img t))).length ≤ 75
theorem canon_few {t : Tn} {ps : List Px} (h : ps.length ≤ 75) : Few t ps := by
  have := canon_le (ps.map (img t))
  rw [List.length_map] at this
  unfold Few
  omega
def BdL (n : Nat) (ps : List Px) : Prop := ∀ z ∈ ps, Bd n z
theorem BdL.imgs {n : Nat} {ps : List Px} {t : Tn} (h : BdL n ps) (g : Good t) : BdL (n + 2) (canon (ps.map (img t))) := fun z hz => by
  obtain ⟨y, hy, rfl⟩ := List.mem_map.mp (mem_canon.mp hz)
  exact img_bd g.pos (h y hy)
theorem BdL.mono {n m : Nat} {ps : List Px} (h : BdL n ps) (l : n ≤ m) : BdL m ps := fun z hz => (h z hz).mono l

def s_need_turn_and_picture : Sp := fun vs H Q _ => ∃ (v v2 : V) (t : Tn) (ps : List Px), vs = [v, v2] ∧ IsTn H v t ∧ Good t ∧ Pic H v2 ps ∧ Asc ps ∧ ps.length ≤ 400 ∧ ∀ H', Same H H' → Q .non H'
theorem sc_need_turn_and_picture : FnScope ["turn", "pixels"] ["turn", "pixels"] (defScope (top 53)) := ⟨rfl, rfl, rfl, by decide +kernel, rfl, by decide +kernel, by decide +kernel⟩
theorem c_need_turn_and_picture (D : Dm K mg "need_turn_and_picture" (top 53)) (T : Fre mg) (h_need_pixels : Cal P w K mg base 4 "need_pixels" s_need_pixels []) (h_need_turn : Cal P w K mg base 4 "need_turn" s_need_turn [])  : Cal P w K mg base 5 "need_turn_and_picture" s_need_turn_and_picture [] := by
  refine cal_of D sc_need_turn_and_picture (fun _ _ _ _ _ _ us hl => match us, hl with | [_, _], _ => rfl) (fun vs H Q E h => ?_) (fun f cdv A outer s H vs Q E hr h => ?_)
  · obtain ⟨_, _, _, _, rfl, _⟩ := h
    rfl
  · obtain ⟨v, v2, t, ps, rfl, hv, g, hv2, hs, hl, k⟩ := h
    refine ⟨_, (pss_cons (ps_expr (pe_c h_need_turn hr (by decide) (by rfl) (pa_cons (pv 0) pa_nil))) (pss_one (ps_expr (pe_c h_need_pixels hr (by decide) (by rfl) (pa_cons (pv 1) pa_nil))))), ?_⟩
    refine ⟨_, rfl, v, t, rfl, hv, g, fun H1 e1 => ?_⟩
    exact ⟨_, rfl, v2, ps, rfl, Pic.same e1 hv2, hs, hl, fun H2 e2 => k _ (e1.trans e2)⟩

def s_images_of : Sp := fun vs H Q _ => ∃ (v v2 : V) (t : Tn) (ps : List Px), vs = [v, v2] ∧ IsTn H v t ∧ Good t ∧ Pic H v2 ps ∧ BdL 5000 ps ∧ Few t ps ∧ ∀ H' p, Same H H' → H p = none → Pic H' (.ref p) (canon (ps.map (img t))) → Q (.ref p) H'
theorem sc_images_of : FnScope ["turn", "pixels", "pixel"] ["turn", "pixels"] (defScope (top 54)) := ⟨rfl, rfl, rfl, by decide +kernel, rfl, by decide +kernel, by decide +kernel⟩
theorem c_images_of (D : Dm K mg "images_of" (top 54)) (T : Fre mg) (h_image_in : Cal P w K mg base 4 "image_in" s_image_in [])  : Cal P w K mg base 5 "images_of" s_images_of [] := by
  refine cal_of D sc_images_of (fun _ _ _ _ _ _ us hl => match us, hl with | [_, _], _ => rfl) (fun vs H Q E h => ?_) (fun f cdv A outer s H vs Q E hr h => ?_)
  · obtain ⟨_, _, _, _, rfl, _⟩ := h
    rfl
  · obtain ⟨v, v2, t, ps, rfl, hv, g, ⟨a, xs, rfl, ha, hp⟩, hb, few, k⟩ := h
    refine ⟨_, (pss_one (ps_ret (pe_callB (cr_sortSet (by rfl) hr.units) (by rfl) T.srt (by decide +kernel) (pa_cons (pe_scP (own := [("pixel", 2)]) (g := gName 2) (by rfl) (hu3 hr) sc_images_of.nd (pi_list (pv 1)) (blkOk_by (own := [("pixel", 2)]) (N := ["turn", "pixels", "pixel"]) (sc := (defScope (top 54))) (by decide +kernel)) (fun _ _ _ _ _ => pg_name (i := 2) sc_images_of.nd rfl (Or.inl rfl)) (fun _ _ _ _ _ => (pe_c h_image_in hr (by decide) (by rfl) (pa_cons (pv 0) (pa_cons (pv 2) pa_nil))))) pa_nil)))), ?_⟩
    refine ⟨_, rfl, a, rfl, ⟨_, SqL.of ha⟩, fun D hD => sc_mapP (img t) hD ha hp few (fun i x d H1 Q1 hd e1 hx q => ?_) fun H1 M e1 hM hP hl mem => ?_⟩
    · exact ⟨_, rfl, _, rfl, v, x, t, d, rfl, hv.same e1, g, hx, hb d (List.mem_of_getElem? hd), fun H2 p e2 h2 => q p H2 e2 ⟨p, rfl, h2⟩⟩
    · refine ⟨D, M, rfl, hM, hP, hl, fun p xs2 np hp2 => ?_⟩
      refine k _ p (e1.trans (sm_new np)) (free_of e1 np) ?_
      rw [← canon_eq mem]
      exact new_list tpl_P np hp2


theorem pairs_asc {H : Hp} {xs : List V} {ps : List Px} (h : Paired (IsP H) xs ps) (hs : Asc ps) {i : Nat} {x y : V} (hx : xs[i]? = some x) (hy : xs[i + 1]? = some y) : ∃ a b, IsP H x a ∧ IsP H y b ∧ ltP a b := by
  obtain ⟨a, ha, pa⟩ := Paired.at h hx
  obtain ⟨b, hb, pb⟩ := Paired.at h hy
  exact ⟨a, b, pa, pb, asc_at hs ha hb⟩
theorem cut1 (xs : List V) : cutV xs (some 1) none = xs.drop 1 := by
  cases xs with
  | nil => rfl
  | cons x l =>
    have e1 : HT.sIx (x :: l).length 0 (some 1) = 1 := by
      simp [HT.sIx]
    have e2 : HT.sIx (x :: l).length (x :: l).length none = (x :: l).length := by simp [HT.sIx]
    unfold cutV
    rw [e1, e2]
    simp

def s_is_picture : Sp := fun vs H Q _ => ∃ (v : V) (ps : List Px), vs = [v] ∧ Pic H v ps ∧ Asc ps ∧ ps.length ≤ 400 ∧ ∀ H', Same H H' → Q (.bl true) H'
theorem sc_is_picture : FnScope ["value", "pixel", "one", "other"] ["value"] (defScope (top 55)) := ⟨rfl, rfl, rfl, by decide +kernel, rfl, by decide +kernel, by decide +kernel⟩
theorem c_is_picture (D : Dm K mg "is_picture" (top 55)) (T : Fre mg) (h_is_pixel : Cal P w K mg base 3 "is_pixel" s_is_pixel [])  : Cal P w K mg base 4 "is_picture" s_is_picture [] := by
  refine cal_of D sc_is_picture (fun _ _ _ _ _ _ us hl => match us, hl with | [_], _ => rfl) (fun vs H Q E h => ?_) (fun f cdv A outer s H vs Q E hr h => ?_)
  · obtain ⟨_, _, rfl, _⟩ := h
    rfl
  · obtain ⟨v, ps, rfl, ⟨a, xs, rfl, ha, hp⟩, hs, hl, k⟩ := h
    refine ⟨_, (pss_cons (ps_if (PW.pt (pw_or (pt_not (pt_val (pe_callB call_isi (by rfl) T.isi boot_isinstance (pa_cons (pv 0) (pa_cons (pe_bltn (v := .ty "list") (u := .type "list") (by rfl) T.lst (by decide +kernel) rfl) pa_nil))))) (pw_or (pt_cmpR op_gt (pe_callB call_len_seq (by rfl) T.len PySem.boot_len (pa_cons (pv 0) pa_nil)) (pe_gc (by rfl) T.mostPixels) (nomark _)) (pw_or1 (pt_not (pt_val (pe_callB (cr_all rfl) (by rfl) T.all (by decide +kernel) (pa_cons (pe_lc (own := [("pixel", 1)]) (g := gName 1) (tt := tYes) (by rfl) sc_is_picture.nd (pi_list (pv 0)) (blkOk_by (own := [("pixel", 1)]) (N := ["value", "pixel", "one", "other"]) (sc := (defScope (top 55))) (by decide +kernel)) (fun _ _ _ _ _ => pg_name (i := 1) sc_is_picture.nd rfl (Or.inl rfl)) (fun _ _ _ _ _ => pts_nil) (fun _ _ _ _ _ => (pe_c h_is_pixel hr (by decide) (by rfl) (pa_cons (pv 1) pa_nil)))) pa_nil)))))))) (pss_one (ps_ret pe_bl)) pss_nil) (pss_one (ps_ret (pe_callB (cr_all rfl) (by rfl) T.all (by decide +kernel) (pa_cons (pe_lc (own := [("one", 2), ("other", 3)]) (g := (gTup K 2 (gCons (gName 2) (gCons (gName 3) gNil)))) (tt := tYes) (by rfl) sc_is_picture.nd (pi_zip (by rfl) T.zip (pa_cons (pv 0) (pa_cons (pe_slice sl_list (pv 0) (po_some pe_int) po_none) pa_nil))) (blkOk_by (own := [("one", 2), ("other", 3)]) (N := ["value", "pixel", "one", "other"]) (sc := (defScope (top 55))) (by decide +kernel)) (fun _ _ _ _ _ => pg_tup (by rfl) (pgs_cons (pg_name (i := 2) sc_is_picture.nd rfl (Or.inl rfl)) (pgs_cons (pg_name (i := 3) sc_is_picture.nd rfl (Or.inl rfl)) pgs_nil))) (fun _ _ _ _ _ => pts_nil) (fun _ _ _ _ _ => (pe_cmpR (op_ltP hr.units0) (pv 2) (pv 3) (nomark _)))) pa_nil))))), ?_⟩
    have hx : xs.length = ps.length := hp.length
    refine ⟨_, rfl, _, _, _, _, true, rfl, .ty _, .base (.lst ha), kit_ty (by decide +kernel), true, rfl, ?_⟩
    refine iteF ?_
    refine ⟨_, rfl, a, _, rfl, .inl (SqL.of ha), _, _, rfl, rfl, _, rfl, ?_⟩
    refine ifN (by omega) ?_
    refine ⟨_, rfl, a, rfl, ⟨_, SqL.of ha⟩, fun D hD => lc_mapL (R := IsP) (R' := IsB) tpl_P tpl_B (fun _ => true) hD ha hp (by omega) (fun i x d H1 Q1 _ e hx q => ?_) fun H1 e1 hL => ?_⟩
    · exact ⟨_, rfl, x, d, rfl, hx, fun H2 e2 => q _ H2 e2 rfl⟩
    obtain ⟨q, ys, e, hq, hp2⟩ := hL
    cases e
    refine ⟨D, ps.map fun _ => true, rfl, SqL.of (by rw [hq, bools_of hp2]), ?_⟩
    rw [all_yes]
    refine ⟨true, rfl, ?_⟩
    refine iteF ?_
    refine ⟨_, rfl, _, rfl, _, rfl, a, xs, rfl, SqL.of (e1 _ _ ha), fun p np => ?_⟩
    rw [cut1]
    have e2 := e1.trans (sm_new (o := .lst (xs.drop 1)) np)
    refine ⟨a, p, xs, xs.drop 1, rfl, SqL.of (e2 _ _ ha), SqL.of upd_same, fun D2 hD2 => lc_it (walk_zip (xs := xs) (ys := xs.drop 1) rfl) (fun i H' => Same (upd H1 p (.lst (xs.drop 1))) H' ∧ H' D2 = some (.lst (List.replicate i (V.bl true)))) ⟨sm_new hD2, upd_same⟩ (fun i H' _ ⟨e, _⟩ => ⟨SqL.of (e _ _ (e2 _ _ ha)), SqL.of (e _ _ upd_same)⟩) ?_ ?_⟩
    · rintro i x H2 H3 hi ⟨e3, hD3⟩ ⟨T, x1, x2, rfl, hT, rfl, h1, h2⟩
      dsimp only at h2
      rw [List.getElem?_drop] at h2
      have h2' : xs[i + 1]? = some x2 := by rw [Nat.add_comm]; exact h2
      obtain ⟨z1, z2, p1, p2, lt⟩ := pairs_asc hp hs h1 h2'
      have e4 := e3.trans (sm_new (o := .tup [x1, x2]) hT)
      refine ⟨T, _, rfl, SqT.of upd_same, rfl, _, _, rfl, _, _, rfl, rfl, rfl, ?_⟩
      refine yes_ ?_
      rw [if_pos rfl]
      refine ⟨_, rfl, _, rfl, z1, z2, p1.same (e2.trans e4), p2.same (e2.trans e4), _, sm_new hT _ _ hD3, ?_, ?_⟩
      · rw [List.length_replicate]
        refine small_lt ?_
        have := Nat.min_le_left xs.length (xs.drop 1).length
        omega
      · refine ⟨?_, ?_⟩
        · exact sm_mut e4 hD2
        · rw [decide_eq_true lt, ← List.replicate_succ']
          exact upd_same
    · rintro H2 ⟨e3, hD3⟩
      refine ⟨D2, List.replicate _ true, rfl, SqL.of (by rw [hD3, List.map_replicate]), ?_⟩
      rw [show (List.replicate (min xs.length (xs.drop 1).length) true).all id = true from by simp]
      exact k _ (e2.trans e3)

def s_turned_picture : Sp := fun vs H Q _ => ∃ (v v2 : V) (t : Tn) (ps : List Px), vs = [v, v2] ∧ IsTn H v t ∧ Good t ∧ Pic H v2 ps ∧ Asc ps ∧ ps.length ≤ 400 ∧ BdL 5000 ps ∧ Few t ps ∧ ∀ H' p, Same H H' → H p = none → Pic H' (.ref p) (canon (ps.map (img t))) → Q (.ref p) H'
theorem sc_turned_picture : FnScope ["turn", "pixels"] ["turn", "pixels"] (defScope (top 56)) := ⟨rfl, rfl, rfl, by decide +kernel, rfl, by decide +kernel, by decide +kernel⟩
theorem c_turned_picture (D : Dm K mg "turned_picture" (top 56)) (T : Fre mg) (h_images_of : Cal P w K mg base 5 "images_of" s_images_of []) (h_need_turn_and_picture : Cal P w K mg base 5 "need_turn_and_picture" s_need_turn_and_picture [])  : Cal P w K mg base 6 "turned_picture" s_turned_picture [] := by
  refine cal_of D sc_turned_picture (fun _ _ _ _ _ _ us hl => match us, hl with | [_, _], _ => rfl) (fun vs H Q E h => ?_) (fun f cdv A outer s H vs Q E hr h => ?_)
  · obtain ⟨_, _, _, _, rfl, _⟩ := h
    rfl
  · obtain ⟨v, v2, t, ps, rfl, hv, g, hv2, hs, hl, hb, few, k⟩ := h
    refine ⟨_, (pss_cons (ps_expr (pe_c h_need_turn_and_picture hr (by decide) (by rfl) (pa_cons (pv 0) (pa_cons (pv 1) pa_nil)))) (pss_one (ps_ret (pe_c h_images_of hr (by decide) (by rfl) (pa_cons (pv 0) (pa_cons (pv 1) pa_nil)))))), ?_⟩
    refine ⟨_, rfl, _, rfl, v, v2, t, ps, rfl, hv, g, hv2, hs, hl, fun H1 e1 => ?_⟩
    exact ⟨_, rfl, _, rfl, v, v2, t, ps, rfl, hv.same e1, g, Pic.same e1 hv2, hb, few, fun H2 p e2 np h2 => k _ p (e1.trans e2) (free_of e1 np) h2⟩

def s_lost_number : Sp := fun vs H Q _ => ∃ (v v2 : V) (t : Tn) (ps : List Px), vs = [v, v2] ∧ IsTn H v t ∧ Good t ∧ Pic H v2 ps ∧ Asc ps ∧ ps.length ≤ 400 ∧ BdL 5000 ps ∧ Few t ps ∧ ∀ H', Same H H' → Q (.int ((ps.length : Int) - ((canon (ps.map (img t))).length : Int))) H'
theorem sc_lost_number : FnScope ["turn", "pixels"] ["turn", "pixels"] (defScope (top 57)) := ⟨rfl, rfl, rfl, by decide +kernel, rfl, by decide +kernel, by decide +kernel⟩
theorem c_lost_number (D : Dm K mg "lost_number" (top 57)) (T : Fre mg) (h_images_of : Cal P w K mg base 5 "images_of" s_images_of []) (h_need_turn_and_picture : Cal P w K mg base 5 "need_turn_and_picture" s_need_turn_and_picture [])  : Cal P w K mg base 6 "lost_number" s_lost_number [] := by
  refine cal_of D sc_lost_number (fun _ _ _ _ _ _ us hl => match us, hl with | [_, _], _ => rfl) (fun vs H Q E h => ?_) (fun f cdv A outer s H vs Q E hr h => ?_)
  · obtain ⟨_, _, _, _, rfl, _⟩ := h
    rfl
  · obtain ⟨v, v2, t, ps, rfl, hv, g, hv2, hs, hl, hb, few, k⟩ := h
    refine ⟨_, (pss_cons (ps_expr (pe_c h_need_turn_and_picture hr (by decide) (by rfl) (pa_cons (pv 0) (pa_cons (pv 1) pa_nil)))) (pss_one (ps_ret (pe_op op_sub (pe_callB call_len_seq (by rfl) T.len PySem.boot_len (pa_cons (pv 1) pa_nil)) (pe_callB call_len_seq (by rfl) T.len PySem.boot_len (pa_cons (pe_c h_images_of hr (by decide) (by rfl) (pa_cons (pv 0) (pa_cons (pv 1) pa_nil))) pa_nil)))))), ?_⟩
    refine ⟨_, rfl, _, rfl, v, v2, t, ps, rfl, hv, g, hv2, hs, hl, fun H1 e1 => ?_⟩
    obtain ⟨a, xs, rfl, ha, hp⟩ := hv2
    have hx : xs.length = ps.length := hp.length
    refine ⟨_, rfl, a, xs, rfl, .inl (SqL.of (e1 _ _ ha)), ?_⟩
    refine ⟨_, rfl, _, rfl, v, _, t, ps, rfl, hv.same e1, g, Pic.same e1 ⟨a, xs, rfl, ha, hp⟩, hb, few, fun H2 p e2 np h2 => ?_⟩
    obtain ⟨a2, ys, e, ha2, hp2⟩ := h2
    cases e
    have hy : ys.length = (canon (ps.map (img t))).length := hp2.length
    refine ⟨_, _, rfl, .inl (SqL.of ha2), _, _, rfl, rfl, ?_⟩
    rw [hx, hy]
    exact k _ (e1.trans e2)


def keyP (z : Px) : List Key := [.inl z.1, .inl z.2]
theorem keyP_inj {z w : Px} : keyP z = keyP w ↔ z = w := by
  constructor
  · intro h
    unfold keyP at h
    injection h with h1 h2
    injection h2 with h2 h3
    injection h1 with h1
    injection h2 with h2
    exact Prod.ext h1 h2
  · rintro rfl; rfl
theorem IsP.key {H : Hp} {p : Addr} {z : Px} (h : H p = some (.tup [.int z.1, .int z.2])) : H p = some (.tup ((keyP z).map kV)) := h
theorem TSm.dic {H : Hp} {D : Addr} {kvs : List (List Key × V)} {o : HO} (h : H D = some (.dT kvs)) : TSm H (L2.upd H D o) := fun b ys e => by
  rw [upd_ne (ne_of e h (by intro z; cases z))]
  exact e

def s_meetings_in : Sp := fun vs H Q _ => ∃ (v v2 : V) (t : Tn) (ps : List Px), vs = [v, v2] ∧ IsTn H v t ∧ Good t ∧ Pic H v2 ps ∧ Asc ps ∧ ps.length ≤ 400 ∧ BdL 5000 ps ∧ ∀ H' p xs, Same H H' → H p = none → H' p = some (.lst xs) → xs.length + (canon (ps.map (img t))).length = ps.length → Q (.ref p) H'
theorem sc_meetings_in : FnScope ["turn", "pixels", "pixel", "first_with", "found", "goal"] ["turn", "pixels"] (defScope (top 58)) := ⟨rfl, rfl, rfl, by decide +kernel, rfl, by decide +kernel, by decide +kernel⟩
theorem c_meetings_in (D : Dm K mg "meetings_in" (top 58)) (T : Fre mg) (h_image_in : Cal P w K mg base 4 "image_in" s_image_in []) (h_need_turn_and_picture : Cal P w K mg base 5 "need_turn_and_picture" s_need_turn_and_picture [])  : Cal P w K mg base 6 "meetings_in" s_meetings_in [] := by
  refine cal_of D sc_meetings_in (fun _ _ _ _ _ _ us hl => match us, hl with | [_, _], _ => rfl) (fun vs H Q E h => ?_) (fun f cdv A outer s H vs Q E hr h => ?_)
  · obtain ⟨_, _, _, _, rfl, _⟩ := h
    rfl
  · obtain ⟨v, v2, t, ps, rfl, hv, g, ⟨a, xs, rfl, ha, hp⟩, hs, hl, hb, k⟩ := h
    refine ⟨_, (pss_cons (ps_expr (pe_c h_need_turn_and_picture hr (by decide) (by rfl) (pa_cons (pv 0) (pa_cons (pv 1) pa_nil)))) (pss_cons (ps_par (i := 3) (j := 4) (by rfl) sc_meetings_in.nd rfl rfl (by decide) rfl rfl (pa_cons pe_dnewT (pa_cons (pe_lst pa_nil) pa_nil)) (by rfl)) (pss_cons (ps_for PassesOwn.never rfl (pi_list (pv 1)) (pg_name (i := 2) sc_meetings_in.nd rfl (Or.inl rfl)) (pss_cons (ps_set (i := 5) sc_meetings_in.nd rfl (Or.inl rfl) (pe_c h_image_in hr (by decide) (by rfl) (pa_cons (pv 0) (pa_cons (pv 2) pa_nil)))) (pss_cons (ps_if (pt_cmp (pc_din (hu_of hr) (pv 5) (pv 3))) (pss_one (ps_expr (pe_bm PySem.F.plainAttrs_list PySem.F.slot_list_append PySem.F.type_list_append mt_append (pv 4) (pa_cons (pe_tup (pa_cons (pe_dget (hu_of hr) (pv 3) (pv 5) (fun _ _ => rfl)) (pa_cons (pv 2) pa_nil))) pa_nil)))) pss_nil) (pss_one (ps_dput (hu_of hr) (pv 3) (pv 5) (pv 2) rfl))))) (pss_one (ps_ret (pe_callB (cr_sortPP hr.units) (by rfl) T.srt (by decide +kernel) (pa_cons (pv 4) pa_nil))))))), ?_⟩
    have hx : xs.length = ps.length := hp.length
    refine ⟨_, rfl, _, rfl, v, _, t, ps, rfl, hv, g, ⟨a, xs, rfl, ha, hp⟩, hs, hl, fun H1 e1 => ?_⟩
    intro d hd
    refine ⟨Nat.zero_le _, fun f hf => ⟨_, _, rfl, ?_⟩⟩
    have hd1 : H d = none := free_of e1 hd
    have e2 : Same H (upd H1 d (.dT [])) := e1.trans (sm_new hd)
    have hf1 : H f = none := free_of e2 hf
    have hfd : f ≠ d := fun c => by rw [c, upd_same] at hf; cases hf
    have e3 : Same H (upd (upd H1 d (.dT [])) f (.lst [])) := e2.trans (sm_new hf)
    refine ⟨_, rfl, a, rfl, ⟨_, SqL.of (e3 _ _ ha)⟩, for_list (xs := xs) (fun i σ H' => ∃ v1 v2, σ = [some v, some (.ref a), v1, some (.ref d), some (.ref f), v2] ∧ Same H H' ∧ ∃ (kvs : List (List Key × V)) (acc : List V) (ds : List (Px × Px)), H' d = some (.dT kvs) ∧ H' f = some (.lst acc) ∧ Paired (IsPP H') acc ds ∧ kvs.length ≤ i ∧
      (∀ k u, valV kvs k = some u → ∃ z, IsP H' u z) ∧ (∀ z, (valV kvs (keyP z)).isSome = true ↔ z ∈ (ps.take i).map (img t)) ∧ acc.length + (canon ((ps.take i).map (img t))).length = i) ⟨none, none, rfl, e3, [], [], [], ?_, upd_same, .nil, Nat.le_refl _, fun _ _ h => (nomatch h), fun z => ?_, rfl⟩ (fun i σ H' _ ⟨_, _, _, e, _⟩ => SqL.of (e _ _ ha)) ?_ ?_⟩
    · rw [upd_ne hfd.symm]
      exact upd_same
    · exact ⟨fun h => (nomatch h), fun h => (nomatch h)⟩
    · rintro i x σ H2 hxi ⟨v1, v2, rfl, e4, kvs, acc, ds, hkv, hac, hpd, hlk, hvs, hmem, hcnt⟩
      obtain ⟨z, hz, hzx⟩ := Paired.at hp hxi
      have hi : i < xs.length := (List.getElem?_eq_some_iff.mp hxi).1
      have zlen := canon_more ((ps.take i).map (img t)) (img t z)
      have hsn : (ps.take (i + 1)).map (img t) = (ps.take i).map (img t) ++ [img t z] := by rw [take_snoc hz, List.map_append]; rfl
      refine ⟨_, rfl, _, rfl, v, x, t, z, rfl, hv.same e4, g, hzx.same e4, hb z (List.mem_of_getElem? hz), fun H3 p e5 hp3 => ?_⟩
      have e45 := e4.trans e5
      refine ⟨_, rfl, _, rfl, d, _, rfl, DGet.t (k := keyP (img t z)) (e5 _ _ hkv) hp3, _, rfl, ?_⟩
      have back : ∀ H4 acc2 ds2, Same H H4 → TSm H3 H4 → H4 d = some (.dT kvs) → H4 f = some (.lst acc2) → Paired (IsPP H4) acc2 ds2 → acc2.length + (canon ((ps.take (i + 1)).map (img t))).length = i + 1 → True := fun _ _ _ _ _ _ _ _ _ => trivial
      have fin : ∀ H4 acc2 ds2, Same H H4 → TSm H3 H4 → H4 d = some (.dT kvs) → H4 f = some (.lst acc2) → Paired (IsPP H4) acc2 ds2 → acc2.length + (canon ((ps.take (i + 1)).map (img t))).length = i + 1 →
          ∃ a_1 H_4, V.ref d = V.ref a_1 ∧ DPut H4 a_1 (.ref p) x H_4 ∧ ∃ v1 v2, ([some v, some (.ref a), some x, some (.ref d), some (.ref f), some (.ref p)] : L2.St) = [some v, some (.ref a), v1, some (.ref d), some (.ref f), v2] ∧ Same H H_4 ∧ ∃ (kvs : List (List Key × V)) (acc : List V) (ds : List (Px × Px)), H_4 d = some (.dT kvs) ∧ H_4 f = some (.lst acc) ∧ Paired (IsPP H_4) acc ds ∧ kvs.length ≤ i + 1 ∧
      (∀ k u, valV kvs k = some u → ∃ z, IsP H_4 u z) ∧ (∀ z, (valV kvs (keyP z)).isSome = true ↔ z ∈ (ps.take (i + 1)).map (img t)) ∧ acc.length + (canon ((ps.take (i + 1)).map (img t))).length = i + 1 := by
        intro H4 acc2 ds2 e6 ts6 hk4 hf4 hp4 hc4
        have lkv : (putK kvs (keyP (img t z)) x).length ≤ i + 1 := Nat.le_trans (length_putK _ _ _) (Nat.succ_le_succ hlk)
        refine ⟨d, _, rfl, DPut.t (k := keyP (img t z)) hk4 (ts6 _ _ hp3) (small_lt (by omega)), _, _, rfl, sm_mut e6 hd1, _, acc2, ds2, upd_same, ?_, ?_, lkv, ?_, ?_, hc4⟩
        · rw [upd_ne hfd]
          exact hf4
        · exact Paired.imp (fun x d q => tpl_PP _ _ x d (TSm.dic hk4) q) hp4
        · intro k1 u1 hu
          rw [valV_put] at hu
          split at hu
          · cases hu
            exact ⟨z, hzx.same (sm_mut e6 hd1)⟩
          · obtain ⟨z1, hz1⟩ := hvs _ _ hu
            exact ⟨z1, tpl_P _ _ _ _ (((sm_t e5).trans ts6).trans (TSm.dic hk4)) hz1⟩
        · intro z1
          rw [valV_put, hsn, List.mem_append, List.mem_singleton, ← hmem z1]
          by_cases c : z1 = img t z
          · rw [if_pos (keyP_inj.mpr c)]
            exact ⟨fun _ => .inr c, fun _ => rfl⟩
          · rw [if_neg fun h => c (keyP_inj.mp h)]
            exact ⟨.inl, fun h => h.elim id fun h => absurd h c⟩
      by_cases hin : img t z ∈ (ps.take i).map (img t)
      · have hsome := (hmem (img t z)).mpr hin
        obtain ⟨u, hu⟩ := Option.isSome_iff_exists.mp hsome
        refine ifB hsome ?_
        obtain ⟨z0, hz0⟩ := hvs _ _ hu
        refine ⟨_, rfl, .inl ⟨rfl, _, SqL.of (e5 _ _ hac)⟩, _, rfl, _, rfl, d, u, rfl, hu ▸ DGet.t (k := keyP (img t z)) (e5 _ _ hkv) hp3, _, rfl, small_le (by decide : 2 ≤ 1000), fun q hq => ?_⟩
        have sm6 : Same H3 (upd H3 q (.tup [u, x])) := sm_new hq
        refine ⟨f, acc, _, rfl, rfl, sm6 _ _ (e5 _ _ hac), small_lt (by omega), ?_⟩
        have e6 := e45.trans sm6
        have t7 : TSm (upd H3 q (.tup [u, x])) (upd (upd H3 q (.tup [u, x])) f (.lst (acc ++ [V.ref q]))) := TSm.lst (sm6 _ _ (e5 _ _ hac))
        refine ⟨_, rfl, _, rfl, _, rfl, fin _ (acc ++ [V.ref q]) (ds ++ [(z0, z)]) (sm_mut e6 hf1) ((sm_t sm6).trans t7) ?_ upd_same ?_ ?_⟩
        · rw [upd_ne hfd.symm]
          exact sm6 _ _ (e5 _ _ hkv)
        · refine Paired.more (Paired.imp (fun x d q => tpl_PP _ _ x d (((sm_t e5).trans (sm_t sm6)).trans t7) q) hpd) ?_
          exact ⟨q, u, x, rfl, t7 _ _ upd_same, tpl_P _ _ _ _ (((sm_t e5).trans (sm_t sm6)).trans t7) hz0, tpl_P _ _ _ _ t7 (hzx.same e6)⟩
        · rw [hsn, zlen, if_pos hin, List.length_append]
          simp only [List.length_singleton]
          omega
      · refine ifC ?_ ?_
        · cases e : (valV kvs (keyP (img t z))).isSome with
          | false => rfl
          | true => exact absurd ((hmem _).mp e) hin
        · refine ⟨_, rfl, _, rfl, _, rfl, fin _ acc ds e45 (TSm.refl _) (e5 _ _ hkv) (e5 _ _ hac) (Paired.imp (fun x d q => tpl_PP _ _ x d (sm_t e5) q) hpd) ?_⟩
          rw [hsn, zlen, if_neg hin]
          omega
    · rintro σ H2 ⟨v1, v2, rfl, e4, kvs, acc, ds, hkv, hac, hpd, hlk, hvs, hmem, hcnt⟩
      rw [hp.length, List.take_length] at hcnt
      refine ⟨_, rfl, _, ds, rfl, ⟨f, acc, rfl, hac, hpd⟩, by rw [← hpd.length]; omega, fun p ys np hpy => ?_⟩
      refine k _ p ys (e4.trans (sm_new np)) (free_of e4 np) upd_same ?_
      rw [hpy.length, List.length_mergeSort, ← hpd.length]
      omega

def s_there_and_back : Sp := fun vs H Q _ => ∃ (v v2 : V) (t : Tn) (ps : List Px), vs = [v, v2] ∧ IsTn H v t ∧ Good t ∧ Pic H v2 ps ∧ Asc ps ∧ ps.length ≤ 400 ∧ BdL 4000 ps ∧ Few t ps ∧ ∀ H' p, Same H H' → H p = none → Pic H' (.ref p) (canon ((canon (ps.map (img t))).map (img (backT t)))) → Q (.ref p) H'
theorem sc_there_and_back : FnScope ["turn", "pixels"] ["turn", "pixels"] (defScope (top 59)) := ⟨rfl, rfl, rfl, by decide +kernel, rfl, by decide +kernel, by decide +kernel⟩
theorem c_there_and_back (D : Dm K mg "there_and_back" (top 59)) (T : Fre mg) (h_images_of : Cal P w K mg base 5 "images_of" s_images_of []) (h_back_of : Cal P w K mg base 1 "back_of" s_back_of []) (h_need_turn_and_picture : Cal P w K mg base 5 "need_turn_and_picture" s_need_turn_and_picture [])  : Cal P w K mg base 6 "there_and_back" s_there_and_back [] := by
  refine cal_of D sc_there_and_back (fun _ _ _ _ _ _ us hl => match us, hl with | [_, _], _ => rfl) (fun vs H Q E h => ?_) (fun f cdv A outer s H vs Q E hr h => ?_)
  · obtain ⟨_, _, _, _, rfl, _⟩ := h
    rfl
  · obtain ⟨v, v2, t, ps, rfl, hv, g, hv2, hs, hl, hb, few, k⟩ := h
    refine ⟨_, (pss_cons (ps_expr (pe_c h_need_turn_and_picture hr (by decide) (by rfl) (pa_cons (pv 0) (pa_cons (pv 1) pa_nil)))) (pss_one (ps_ret (pe_c h_images_of hr (by decide) (by rfl) (pa_cons (pe_c h_back_of hr (by decide) (by rfl) (pa_cons (pv 0) pa_nil)) (pa_cons (pe_c h_images_of hr (by decide) (by rfl) (pa_cons (pv 0) (pa_cons (pv 1) pa_nil))) pa_nil)))))), ?_⟩
    refine ⟨_, rfl, _, rfl, v, v2, t, ps, rfl, hv, g, hv2, hs, hl, fun H1 e1 => ?_⟩
    refine ⟨_, rfl, v, t, rfl, hv.same e1, fun H2 q e2 hq => ?_⟩
    have e12 := e1.trans e2
    refine ⟨_, rfl, _, rfl, v, v2, t, ps, rfl, hv.same e12, g, Pic.same e12 hv2, hb.mono (by omega), few, fun H3 p3 e3 np3 h3 => ?_⟩
    have e123 := e12.trans e3
    refine ⟨_, _, backT t, _, rfl, ⟨q, rfl, e3 _ _ hq⟩, g.back, h3, (hb.imgs g).mono (by omega), canon_few few, fun H4 p4 e4 np4 h4 => ?_⟩
    exact k _ p4 (e123.trans e4) (free_of e123 np4) h4


theorem shear_inj (t : Tn) (o : Bool) {ps : List Px} (h : Asc ps) : ps.mergeSort (PySem.W.dataLe false encP) = canon ps := sort_canon h.nodup
def shearsT (t : Tn) (o : Bool) (ps : List Px) : List Px := canon (ps.map (shearT t o))
def walksT (ts : List Tn) (ps : List Px) : List Px := canon (ps.map (walkT ts))

def s_sheared_picture : Sp := fun vs H Q _ => ∃ (v v2 : V) (t : Tn) (o : Bool) (ps : List Px) (n : Nat), vs = [v, .str (ordS o), v2] ∧ IsTn H v t ∧ Good t ∧ Pic H v2 ps ∧ Asc ps ∧ ps.length ≤ 400 ∧ BdL n ps ∧ n ≤ 4000 ∧ ∀ H' p, Same H H' → H p = none → Pic H' (.ref p) (shearsT t o ps) → Q (.ref p) H'
theorem sc_sheared_picture : FnScope ["turn", "order", "pixels", "pixel"] ["turn", "order", "pixels"] (defScope (top 60)) := ⟨rfl, rfl, rfl, by decide +kernel, rfl, by decide +kernel, by decide +kernel⟩
theorem c_sheared_picture (D : Dm K mg "sheared_picture" (top 60)) (T : Fre mg) (h_sheared : Cal P w K mg base 6 "sheared" s_sheared []) (h_need_pixels : Cal P w K mg base 4 "need_pixels" s_need_pixels []) (h_shear_chain : Cal P w K mg base 5 "shear_chain" s_shear_chain [])  : Cal P w K mg base 7 "sheared_picture" s_sheared_picture [] := by
  refine cal_of D sc_sheared_picture (fun _ _ _ _ _ _ us hl => match us, hl with | [_, _, _], _ => rfl) (fun vs H Q E h => ?_) (fun f cdv A outer s H vs Q E hr h => ?_)
  · obtain ⟨_, _, _, _, _, _, rfl, _⟩ := h
    rfl
  · obtain ⟨v, v2, t, o, ps, n, rfl, hv, g, ⟨a, xs, rfl, ha, hp⟩, hs, hl, hb, hn, k⟩ := h
    refine ⟨_, (pss_cons (ps_expr (pe_c h_shear_chain hr (by decide) (by rfl) (pa_cons (pv 0) (pa_cons (pv 1) pa_nil)))) (pss_cons (ps_expr (pe_c h_need_pixels hr (by decide) (by rfl) (pa_cons (pv 2) pa_nil))) (pss_one (ps_ret (pe_callB (cr_sortP hr.units) (by rfl) T.srt (by decide +kernel) (pa_cons (pe_lc (own := [("pixel", 3)]) (g := gName 3) (tt := tYes) (by rfl) sc_sheared_picture.nd (pi_list (pv 2)) (blkOk_by (own := [("pixel", 3)]) (N := ["turn", "order", "pixels", "pixel"]) (sc := (defScope (top 60))) (by decide +kernel)) (fun _ _ _ _ _ => pg_name (i := 3) sc_sheared_picture.nd rfl (Or.inl rfl)) (fun _ _ _ _ _ => pts_nil) (fun _ _ _ _ _ => (pe_c h_sheared hr (by decide) (by rfl) (pa_cons (pv 0) (pa_cons (pv 1) (pa_cons (pv 3) pa_nil)))))) pa_nil)))))), ?_⟩
    have hx : xs.length = ps.length := hp.length
    refine ⟨_, rfl, _, rfl, v, t, o, rfl, hv, g, fun H1 v1 e1 => ?_⟩
    refine ⟨_, rfl, _, ps, rfl, ⟨a, xs, rfl, e1 _ _ ha, Paired.imp (fun x d q => IsP.same e1 q) hp⟩, hs, hl, fun H2 e2 => ?_⟩
    have e12 := e1.trans e2
    refine ⟨_, rfl, a, rfl, ⟨_, SqL.of (e12 _ _ ha)⟩, fun D hD => lc_mapL (R := IsP) (R' := IsP) tpl_P tpl_P (shearT t o) hD (e12 _ _ ha) (Paired.imp (fun x d q => IsP.same e12 q) hp) (by omega) (fun i x d H3 Q3 hd e3 hxd q => ?_) fun H3 e3 hL => ?_⟩
    · exact ⟨_, rfl, _, rfl, _, rfl, v, x, t, o, d, n, rfl, hv.same (e12.trans e3), g, hxd, hb d (List.mem_of_getElem? hd), hn, fun H4 p e4 h4 => q _ H4 e4 h4⟩
    refine ⟨_, _, rfl, hL, by rw [List.length_map]; omega, fun p ys np hpy => ?_⟩
    refine k _ p ((e12.trans e3).trans (sm_new np)) (free_of (e12.trans e3) np) ?_
    rw [sort_canon (map_nodup hs.nodup fun z _ => unshear_shear t o z)] at hpy
    exact new_list tpl_P np hpy

def s_walked_picture : Sp := fun vs H Q _ => ∃ (v v2 : V) (ts : List Tn) (ps : List Px) (n : Nat), vs = [v, v2] ∧ Way H v ts ∧ GoodW ts ∧ ts.length ≤ 120 ∧ Pic H v2 ps ∧ Asc ps ∧ ps.length ≤ 400 ∧ BdL n ps ∧ n ≤ 4000 ∧ ∀ H' p, Same H H' → H p = none → Pic H' (.ref p) (walksT ts ps) → Q (.ref p) H'
theorem sc_walked_picture : FnScope ["way", "pixels", "pixel"] ["way", "pixels"] (defScope (top 61)) := ⟨rfl, rfl, rfl, by decide +kernel, rfl, by decide +kernel, by decide +kernel⟩
theorem c_walked_picture (D : Dm K mg "walked_picture" (top 61)) (T : Fre mg) (h_walked : Cal P w K mg base 6 "walked" s_walked []) (h_need_pixels : Cal P w K mg base 4 "need_pixels" s_need_pixels []) (h_way_bound : Cal P w K mg base 6 "way_bound" s_way_bound [])  : Cal P w K mg base 7 "walked_picture" s_walked_picture [] := by
  refine cal_of D sc_walked_picture (fun _ _ _ _ _ _ us hl => match us, hl with | [_, _], _ => rfl) (fun vs H Q E h => ?_) (fun f cdv A outer s H vs Q E hr h => ?_)
  · obtain ⟨_, _, _, _, _, rfl, _⟩ := h
    rfl
  · obtain ⟨v, v2, ts, ps, n, rfl, hv, g, ht, ⟨a, xs, rfl, ha, hp⟩, hs, hl, hb, hn, k⟩ := h
    refine ⟨_, (pss_cons (ps_expr (pe_c h_way_bound hr (by decide) (by rfl) (pa_cons (pv 0) pa_nil))) (pss_cons (ps_expr (pe_c h_need_pixels hr (by decide) (by rfl) (pa_cons (pv 1) pa_nil))) (pss_one (ps_ret (pe_callB (cr_sortP hr.units) (by rfl) T.srt (by decide +kernel) (pa_cons (pe_lc (own := [("pixel", 2)]) (g := gName 2) (tt := tYes) (by rfl) sc_walked_picture.nd (pi_list (pv 1)) (blkOk_by (own := [("pixel", 2)]) (N := ["way", "pixels", "pixel"]) (sc := (defScope (top 61))) (by decide +kernel)) (fun _ _ _ _ _ => pg_name (i := 2) sc_walked_picture.nd rfl (Or.inl rfl)) (fun _ _ _ _ _ => pts_nil) (fun _ _ _ _ _ => (pe_c h_walked hr (by decide) (by rfl) (pa_cons (pv 0) (pa_cons (pv 2) pa_nil))))) pa_nil)))))), ?_⟩
    have hx : xs.length = ps.length := hp.length
    refine ⟨_, rfl, v, ts, rfl, hv, g, ht, fun H1 v1 e1 => ?_⟩
    refine ⟨_, rfl, _, ps, rfl, ⟨a, xs, rfl, e1 _ _ ha, Paired.imp (fun x d q => IsP.same e1 q) hp⟩, hs, hl, fun H2 e2 => ?_⟩
    have e12 := e1.trans e2
    refine ⟨_, rfl, a, rfl, ⟨_, SqL.of (e12 _ _ ha)⟩, fun D hD => lc_mapL (R := IsP) (R' := IsP) tpl_P tpl_P (walkT ts) hD (e12 _ _ ha) (Paired.imp (fun x d q => IsP.same e12 q) hp) (by omega) (fun i x d H3 Q3 hd e3 hxd q => ?_) fun H3 e3 hL => ?_⟩
    · exact ⟨_, rfl, _, rfl, v, x, ts, d, n, rfl, Way.same (e12.trans e3) hv, g, ht, hxd, hb d (List.mem_of_getElem? hd), hn, fun H4 v4 e4 h4 => q _ H4 e4 h4⟩
    refine ⟨_, _, rfl, hL, by rw [List.length_map]; omega, fun p ys np hpy => ?_⟩
    refine k _ p ((e12.trans e3).trans (sm_new np)) (free_of (e12.trans e3) np) ?_
    rw [sort_canon (map_nodup hs.nodup fun z _ => walk_back g z)] at hpy
    exact new_list tpl_P np hpy

end
end TP


set_option Elab.async false
set_option linter.all false
set_option maxRecDepth 100000
set_option maxHeartbeats 4000000
namespace TP
open PySem PySem.Spec PyProof.Rows L2

/-! ### methods and properties, whatever the object's class -/
section
variable (P : Program) (w : World) (K : PySem.W.Frag) (mg : Str → Option Value) (base : Heap)
/-- the class at C has the method m, and it keeps sp -/
structure MU (CX : CXT) (k : Nat) (m : Str) (C : Addr) (sp : Sp) : Prop where
  ex : ∃ (f : Addr) (fd : FuncData) (ps : List Str), Cls K C ∧ Meth K C m f ∧ FnOk P w K mg base CX k f fd ps sp ∧ Binds K fd ps []
structure PU (CX : CXT) (k : Nat) (m : Str) (C : Addr) (sp : Sp) : Prop where
  ex : ∃ (p g : Addr) (fd : FuncData) (ps : List Str), Cls K C ∧ PropOf K C m p g ∧ FnOk P w K mg base CX k g fd ps sp ∧ Binds K fd ps []
/-- a def whose call raises nothing and asks nothing of what is handled -/
structure FnQ (CX : CXT) (k : Nat) (f : Addr) (fd : FuncData) (ps : List Str) (sp : Sp) : Prop where
  len : ∀ vs H Q E, sp vs H Q E → vs.length = ps.length
  run : ∀ (A : Around) (outer : List Env) (s : Shared) (H : Hp) (args : Args) (us : List Value) (vs : List V) (Q : VK) (E : XK) (p : Addr × Obj), L2H.RoomH k A → L2H.PinOk outer H s p →
    Env0 P w K mg base A outer s H → BindsTo s fd args (ps.zip us) → Vals vs us → sp vs H Q E → codeAny (model P w) A (.call (.ref f) args) (CR CX outer P w H s Q E) s
structure PQ (CX : CXT) (k : Nat) (m : Str) (C : Addr) (sp : Sp) : Prop where
  ex : ∃ (p g : Addr) (fd : FuncData) (ps : List Str), Cls K C ∧ PropOf K C m p g ∧ FnQ P w K mg base CX k g fd ps sp ∧ Binds K fd ps []
end
section
variable {P : Program} {w : World} {K : PySem.W.Frag} {mg : Str → Option Value} {base : Heap}
theorem MU.mono {CX : CXT} {j k : Nat} {m : Str} {C : Addr} {sp : Sp} (h : MU P w K mg base CX j m C sp) (l : j ≤ k) : MU P w K mg base CX k m C sp := by
  obtain ⟨f, fd, ps, a, b, c, d⟩ := h.ex
  exact ⟨f, fd, ps, a, b, c.mono l, d⟩
theorem MU.imp {CX : CXT} {k : Nat} {m : Str} {C : Addr} {sp sp' : Sp} (h : MU P w K mg base CX k m C sp) (g : ∀ vs H Q E, sp' vs H Q E → sp vs H Q E) : MU P w K mg base CX k m C sp' := by
  obtain ⟨f, fd, ps, a, b, c, d⟩ := h.ex
  exact ⟨f, fd, ps, a, b, c.imp g, d⟩
theorem PU.mono {CX : CXT} {j k : Nat} {m : Str} {C : Addr} {sp : Sp} (h : PU P w K mg base CX j m C sp) (l : j ≤ k) : PU P w K mg base CX k m C sp := by
  obtain ⟨p, g, fd, ps, a, b, c, d⟩ := h.ex
  exact ⟨p, g, fd, ps, a, b, c.mono l, d⟩
theorem fnQ_of {CX : CXT} {k : Nat} {f : Addr} {name qual : Str} {params : Arguments} {body : List Stmt} {scope : Scope} {dV kV doc pm cdv ct oc : Value} {an od : Option Addr} {osl : Array (Option Value)} {N ps : List Str} {sp : Sp}
    (lk : K.lookup f = some ⟨oc, od, .func (PySem.W.fnOf name qual params body scope dV kV doc pm an cdv ct), osl⟩) (hcd : PySem.W.codeIn K cdv qual = true) (S : FnScope N ps scope)
    (len : ∀ vs H Q E, sp vs H Q E → vs.length = ps.length)
    (bod : ∀ (A : Around) (outer : List Env) (s : Shared) (H : Hp) (vs : List V) (Q : VK) (E : XK) (p : Addr × Obj), L2H.RoomH k (A.deeper (envOfC qual scope s.heap.objs.size f cdv)) → sp vs H Q E →
      ∃ t, PSs (L2H.cxH CX P w K mg base N qual scope f cdv A outer s H E p) body t ∧ t { nx := fun _ H' => Q .non H', rt := Q } (L2.start N vs) H) :
    FnQ P w K mg base CX (k + 1) f (PySem.W.fnOf name qual params body scope dV kV doc pm an cdv ct) ps sp := by
  constructor
  · exact len
  intro A outer s H args us vs Q E p hr pin e0 hb rv asked
  have KX : K.In s.heap := e0.mod.kin.keeps fun b o z => (e0.bs b o z).1
  have fits : ∀ y ∈ ps.zip us, scope.names.lookup y.1 = some .local ∨ (scope.names.lookup y.1 = some .cell ∧ ((cellsFrom (s.heap.objs.size + 1) scope.names []).lookup y.1).isSome = true) := by
    rintro ⟨n, v⟩ hy
    exact (S.par n (List.of_mem_zip hy).1).elim .inl fun q => .inr ⟨q, PySem.W.cellsFrom_some _ _ _ (.inl q)⟩
  refine codeAny_call_function hr.depth (KX _ _ lk) rfl S.co S.gen rfl (PySem.W.codeRec_of KX hcd) (hb _ _ _ _ (wpAny_newFunctionEnv_cells S.kind fits ?_))
  rintro env rfl s1 x
  refine ⟨Heap.NoLimit.keeps (e0.mod.nolimit.keeps fun b o z => (e0.bs b o z).1) x.toInCall.keep, codeAny_func ?_⟩
  obtain ⟨t, ht, hq⟩ := bod A outer s H vs Q E p (hr.deeper _) asked
  refine wpAny_mono (ht.run [] s1 (L2.start N vs) H _ (L2H.inv_startH S pin e0 (len _ _ _ _ asked) rv x) hq) (fun fl s' hs => ?_) fun e s' hs => hs
  match fl, hs with
  | .ret u, ⟨v, σ', H', J, r, q⟩ => exact ⟨v, H', J.os, J.bare, J.base, J.hok, r, q⟩
  | .next, ⟨σ', H', J, q⟩ => exact ⟨V.non, H', J.os, J.bare, J.base, J.hok, rfl, q⟩
  | .brk, ⟨_, _, _, q⟩ => exact q.elim
  | .cont, ⟨_, _, _, q⟩ => exact q.elim
end
section
variable {X : Cx} {CX : CXT} {k : Nat} {m : Str} {E : XK} {ES : L2.St → XK} {pos apos : Pos} {e o : Expr} {es : List Expr} {ta : TE} {t : TA}
def tMU (M : Addr → Sp → Prop) (m : Str) (E : L2.St → XK) (ta : TE) (t : TA) : TE := fun σ H Q => ta σ H fun x H1 => ∃ (a C dx : Addr) (fs : List (Str × V)) (sp : Sp), x = .ref a ∧ H1 a = some (.ins C dx fs) ∧ fs.lookup m = none ∧ M C sp ∧ t σ H1 fun vs H2 => sp (x :: vs) H2 Q (E σ)
/-- o.m(e, ..) -/
theorem pe_mu {pl : Sem Bool} (he : PE X o ta) (hr : Room k X.A) (hx : ∀ σ, PassesAt CX X σ (ES σ)) (ha : PA X (e :: es) t)
    (hst : starEach (e :: es) X.env = (false, eval e X.env) :: starEach es X.env := by rfl) (hpl : (backTo pos (starEach es X.env)).any (·.1) = false := by rfl)
    (ht : eval (.Call (.Attribute o m apos) (e :: es) [] pos) X.env = (do let ov ← eval o X.env; standAt apos.atName; let (f, first) ← holding [ov] (getMethod ov m pl); callWith pos f first (backTo pos (starEach (e :: es) X.env)) (backToKw pos (keywordEach [] X.env))) := by rfl) :
    PE X (.Call (.Attribute o m apos) (e :: es) [] pos) (tMU (MU X.prog X.w X.K X.mg X.base CX k m) m ES ta t) := by
  constructor
  intro pins s σ H Q I h
  refine PySem.W.methodCall_KW (pl := pl) (thn (he.run pins s σ H _ I h) ?_) ht
  rintro u s1 ⟨x, H1, I1, rx, a, C, dx, fs, sp, rfl, ea, l, M, q⟩
  obtain ⟨f, fd, ps, c, hm, F, hb⟩ := M.ex
  obtain rfl : u = Value.ref a := rx
  refine getmeth_ok I1 ea c hm l (PySem.W.callWith_K (first := [.ref a]) (h₀ := X.base) I.ok.mod.kin hm.kp (thn (ha.run pos pins s1 σ H1 _ I1 q) ?_) hst hpl)
  rintro us s2 ⟨vs, H2, I2, r, q2⟩
  exact ⟨I2.kIn, run_fnS (us := .ref a :: us) (vs := .ref a :: vs) F hr hb (hx σ) I2 (.cons rfl r) q2⟩
/-- o.m() -/
theorem pe_mu0 {pl : Sem Bool} (he : PE X o ta) (hr : Room k X.A) (hx : ∀ σ, PassesAt CX X σ (ES σ))
    (ht : eval (.Call (.Attribute o m apos) [] [] pos) X.env = (do let ov ← eval o X.env; standAt apos.atName; let (f, first) ← holding [ov] (getMethod ov m pl); callWith pos f first (backTo pos (starEach [] X.env)) (backToKw pos (keywordEach [] X.env))) := by rfl) :
    PE X (.Call (.Attribute o m apos) [] [] pos) (tMU (MU X.prog X.w X.K X.mg X.base CX k m) m ES ta tNil) := by
  constructor
  intro pins s σ H Q I h
  refine PySem.W.methodCall_KW (pl := pl) (thn (he.run pins s σ H _ I h) ?_) ht
  rintro u s1 ⟨x, H1, I1, rx, a, C, dx, fs, sp, rfl, ea, l, M, q⟩
  obtain ⟨f, fd, ps, c, hm, F, hb⟩ := M.ex
  obtain rfl : u = Value.ref a := rx
  exact getmeth_ok I1 ea c hm l (PySem.W.callWith_K0 (first := [.ref a]) I1.kIn hm.kp (run_fnS (us := [.ref a]) (vs := [.ref a]) F hr hb (hx σ) I1 (.cons rfl .nil) q))
theorem passN {X : Cx} {E : XK} {σ : L2.St} : PassesAt C8.CX0 X σ E := fun _ _ _ _ _ _ h => h.elim
def tPU (M : Addr → Sp → Prop) (ta : TE) : TE := fun σ H Q => ta σ H fun x H1 => ∃ (a C dx : Addr) (fs : List (Str × V)) (sp : Sp), x = .ref a ∧ H1 a = some (.ins C dx fs) ∧ M C sp ∧ sp [.ref a] H1 Q C8.E0
/-- o.m, a property -/
theorem pe_pu (he : PE X o ta) (hr : Room (k + 1) X.A) (hab : attributeBase o m X.env (eval o X.env) = eval o X.env := by rfl) : PE X (.Attribute o m pos) (tPU (PU X.prog X.w X.K X.mg X.base C8.CX0 k m) ta) := by
  constructor
  intro pins s σ H Q I h
  refine attr_of hab (thn (he.run pins s σ H _ I h) ?_)
  rintro u s1 ⟨x, H1, I1, rx, a, C, dx, fs, sp, rfl, ea, M, q⟩
  obtain ⟨p, g, fd, ps, c, hp, F, hb⟩ := M.ex
  obtain rfl : u = Value.ref a := rx
  exact getprop_ok I1 ea c hp F hr hb .nil (fun _ _ _ _ _ _ _ z => z.elim) q
/-- .. where an exception is handled -/
theorem pe_pq {a0 : Addr} {oe : Obj} {pn : List (Addr × Obj)} (he : PE (X.suite a0 ((a0, oe) :: pn)) o ta) (hr : L2H.RoomH (k + 1) (X.suite a0 ((a0, oe) :: pn)).A)
    (hab : attributeBase o m (X.suite a0 ((a0, oe) :: pn)).env (eval o (X.suite a0 ((a0, oe) :: pn)).env) = eval o (X.suite a0 ((a0, oe) :: pn)).env := by rfl) :
    PE (X.suite a0 ((a0, oe) :: pn)) (.Attribute o m pos) (tPU (PQ X.prog X.w X.K X.mg X.base C8.CX0 k m) ta) := by
  constructor
  intro pins s σ H Q I h
  refine attr_of hab (thn (he.run pins s σ H _ I h) ?_)
  rintro u s1 ⟨x, H1, I1, rx, a, C, dx, fs, sp, rfl, ea, M, q⟩
  obtain ⟨p, g, fd, ps, c, hp, F, hb⟩ := M.ex
  obtain rfl : u = Value.ref a := rx
  obtain ⟨mA, O, _, _, _, _⟩ := ins_get I1.hok ea
  obtain ⟨od, J, _⟩ := O.look
  obtain ⟨rest, hrec⟩ := hp.rec_
  have I2 := I1.tok (s1.toks + 1)
  have hl : ([Value.ref a] ++ ([] : List Value)).length = ps.length := F.len _ _ _ _ q
  have hc : (PySem.W.clsIn (X.suite a0 ((a0, oe) :: pn)).K C).isSome = true := by
    obtain ⟨cd, z, _⟩ := PySem.W.any_some c.hd
    rw [show PySem.W.clsIn (X.suite a0 ((a0, oe) :: pn)).K C = some cd from z]
    rfl
  have P1 := I2.pin (a0, oe) (List.mem_append_left _ List.mem_cons_self)
  have pin : L2H.PinOk (X.suite a0 ((a0, oe) :: pn)).stack H1 { s1 with toks := s1.toks + 1 } (a0, oe) := ⟨P1.1, P1.2.1, fun hm => (List.mem_cons.mp (I2.stkSub a0 hm)).elim P1.2.2.1 P1.2.2.2.1, P1.2.2.2.2⟩
  have hr1 : L2H.RoomH k (X.suite a0 ((a0, oe) :: pn)).A.in1 := ⟨by have := hr.dp; show (X.suite a0 ((a0, oe) :: pn)).A.depth + 3 * k + 5 < _; omega, by have := hr.un; show (X.suite a0 ((a0, oe) :: pn)).A.units + 1 + 16 * k + 200 < _; omega⟩
  refine PySem.W.get_bind I1.kIn J (PySem.W.plainGet_of (c.get m)).1 (PySem.W.findObj_data hc hp.at_ hp.get hp.tak) (PySem.W.plainGet_of (c.get m)).2 (wpAny_call (PySem.W.prop_get (s := { s1 with toks := s1.toks + 1 }) I1.kIn hrec ?_))
  refine codeAny_mono (F.run _ _ { s1 with toks := s1.toks + 1 } H1 ⟨[.ref a], []⟩ [.ref a] [.ref a] Q C8.E0 (a0, oe) hr1 pin I2.env0.in1 (hb _ [.ref a] I2.kIn hl) (.cons rfl .nil) q) ?_
  intro r s' hq
  match r, hq with
  | .error er, hq => exact False.elim hq
  | .ok (.ret u), hq =>
    obtain ⟨v, H', I3, rv, q3⟩ := I2.after hq
    show wpAny _ _ (handedOut u) _ _ _
    rw [PySem.W.handedOut_of (handed_of rv)]
    exact wpAny_pure ⟨v, H', I3, rv, q3⟩
  | .ok .next, hq => exact False.elim hq
  | .ok .brk, hq => exact False.elim hq
  | .ok .cont, hq => exact False.elim hq
/-- len(o), o of a class with its own __len__ -/
def rLenU (M : Addr → Sp → Prop) : List V → Hp → VK → Prop := fun xs H Q => ∃ (a C dx : Addr) (fs : List (Str × V)) (sp : Sp), xs = [.ref a] ∧ H a = some (.ins C dx fs) ∧ M C sp ∧ sp [.ref a] H (fun v H' => ∃ n : Nat, v = .int n ∧ n ≤ 1000 ∧ Q (.int n) H') C8.E0
theorem call_lenU (hr : Room (k + 1) X.A) : CallR X (.builtin "len") (rLenU (MU X.prog X.w X.K X.mg X.base C8.CX0 k "__len__")) := by
  intro pins s σ H xs us Q I rv h
  obtain ⟨a, C, dx, fs, sp, rfl, ea, M, q⟩ := h
  obtain ⟨f, fd, ps, c, hm, F, hb⟩ := M.ex
  obtain ⟨u, rfl, ru⟩ := vals1 rv
  obtain rfl : u = Value.ref a := ru
  obtain ⟨mA, O, _, _, _, _⟩ := ins_get I.hok ea
  obtain ⟨od, J, _⟩ := O.look
  obtain ⟨m0, fr⟩ := I.fr
  have hl : ([Value.ref a] ++ ([] : List Value)).length = ps.length := F.len _ _ _ _ q
  refine PySem.W.len_K fr I.ok.mod.kin J hm.at_ hm.fn (wpAny_call (codeAny_mono (F.run X.A.in1 X.stack s H ⟨[.ref a], []⟩ [.ref a] [.ref a] _ C8.E0 hr.in1 I.env0.in1 (hb _ [.ref a] I.kIn hl) (.cons rfl .nil) q) ?_))
  intro r s' hq
  match r, hq with
  | .error er, hq => exact False.elim hq
  | .ok (.ret u), hq =>
    obtain ⟨v, H', I3, rv, n, rfl, hn, q3⟩ := I.after hq
    obtain ⟨t, rfl⟩ := rv
    exact ⟨⟨Int.natCast_nonneg _, by omega⟩, .int n, H', I3.tok _, ⟨_, rfl⟩, q3⟩
  | .ok .next, hq => exact False.elim hq
  | .ok .brk, hq => exact False.elim hq
  | .ok .cont, hq => exact False.elim hq
end
/-! ### for .. in zip of three lists -/
def Itz3 (K : PySem.W.Frag) (a b c : Addr) : It :=
  ⟨fun i H => ∃ (xs ys zs : List V) (x y z : V), SqL K H a xs ∧ SqL K H b ys ∧ SqL K H c zs ∧ xs[i]? = some x ∧ ys[i]? = some y ∧ zs[i]? = some z,
    fun i H v H' => ∃ T x y z, v = .ref T ∧ H T = none ∧ H' = upd H T (.tup [x, y, z]) ∧ (∀ xs, SqL K H a xs → xs[i]? = some x) ∧ (∀ ys, SqL K H b ys → ys[i]? = some y) ∧ ∀ zs, SqL K H c zs → zs[i]? = some z,
    fun i H => ∃ xs ys zs : List V, SqL K H a xs ∧ SqL K H b ys ∧ SqL K H c zs ∧ xs.length = i ∧ ys.length = i ∧ zs.length = i⟩
theorem turn_zip3 {P : Program} {w : World} {K : PySem.W.Frag} {elts : List Expr} {kk : Nat} {tpos : Pos} {a b c N : Addr} (la : a < N) (lb : b < N) (lc : c < N) :
    Turn P w K (.Tuple elts kk tpos) (Itz3 K a b c) [N + 5, N + 3, N + 4, N, N + 1, N + 2] (N + 5) (fun i h => IsZip h (N + 5) (N + 3) (N + 4) .none ∧ IsTupOf3 h (N + 3) (.ref N) (.ref (N + 1)) (.ref (N + 2)) ∧ (∃ x y z, IsTupOf3 h (N + 4) x y z) ∧ h.IsListIter N a i ∧ h.IsListIter (N + 1) b i ∧ h.IsListIter (N + 2) c i) where
  mem := List.mem_cons_self
  obj := fun i h st d hd => by
    obtain ⟨hz, hTI, ⟨x, y, z, hTO⟩, ⟨o1, e1, _, d1⟩, ⟨o2, e2, _, d2⟩, ⟨o3, e3, _, d3⟩⟩ := st
    simp only [List.mem_cons, List.not_mem_nil, or_false] at hd
    rcases hd with q | q | q | q | q | q <;> rw [q]
    · exact ⟨_, hz, fun v q => nomatch q⟩
    · exact ⟨_, hTI, fun v q => nomatch q⟩
    · exact ⟨_, hTO, fun v q => nomatch q⟩
    · exact ⟨o1, e1, fun v q => by rw [d1] at q; cases q⟩
    · exact ⟨o2, e2, fun v q => by rw [d2] at q; cases q⟩
    · exact ⟨o3, e3, fun v q => by rw [d3] at q; cases q⟩
  keep := fun i h h' st k => by
    obtain ⟨hz, hTI, ⟨x, y, z, hTO⟩, h1, h2, h3⟩ := st
    exact ⟨k _ (by simp) _ hz, k _ (by simp) _ hTI, ⟨x, y, z, k _ (by simp) _ hTO⟩, h1.at fun o q => k N (by simp) o q, h2.at fun o q => k (N + 1) (by simp) o q, h3.at fun o q => k (N + 2) (by simp) o q⟩
  item := by
    intro X hP hw hK hc i pins s σ H E I hf st hg
    subst hP hw hK
    obtain ⟨xs, ys, zs, x, y, z, hqx, hqy, hqz, hx, hy, hz⟩ := hg
    obtain ⟨i1, rv1, p1, _⟩ := I.list hqx
    obtain ⟨i2, rv2, p2, _⟩ := I.list hqy
    obtain ⟨i3, rv3, p3, _⟩ := I.list hqz
    obtain ⟨u1, hu1, ru1⟩ := rv1.get hx
    obtain ⟨u2, hu2, ru2⟩ := rv2.get hy
    obtain ⟨u3, hu3, ru3⟩ := rv3.get hz
    have hh : X.A.in1.handled = none := I.ok.hd hc
    have S := zip_sep3 (N := N) (fp1 := [a]) (fp2 := [b]) (fp3 := [c]) (fun d hd => by rw [List.mem_singleton.mp hd]; exact la) (fun d hd => by rw [List.mem_singleton.mp hd]; exact lb) (fun d hd => by rw [List.mem_singleton.mp hd]; exact lc)
    have W := WalksT.zipD3 S (Draws.list (prog := X.prog) (w := X.w) hh N a (Nat.ne_of_lt la) i1.toArray) (Draws.list (prog := X.prog) (w := X.w) hh (N + 1) b (show b ≠ N + 1 from Nat.ne_of_lt (Nat.lt_succ_of_lt lb)) i2.toArray) (Draws.list (prog := X.prog) (w := X.w) hh (N + 2) c (show c ≠ N + 2 from Nat.ne_of_lt (Nat.lt_succ_of_lt (Nat.lt_succ_of_lt lc))) i3.toArray)
    obtain ⟨hzz, hTI, hTO, h1, h2, h3⟩ := st
    have n1 : i < i1.length := (List.getElem?_eq_some_iff.mp hu1).1
    have n2 : i < i2.length := (List.getElem?_eq_some_iff.mp hu2).1
    have n3 : i < i3.length := (List.getElem?_eq_some_iff.mp hu3).1
    refine W.item i s _ E (by simp only [List.size_toArray]; omega) ⟨hzz, hTI, hTO, ⟨h1, p1.isList⟩, ⟨h2, p2.isList⟩, h3, p3.isList⟩ ?_
    rintro T vals h' tk ⟨v1, v2, v3, e1, e2, e3, rfl⟩ hT tup mid kp
    have q1 : v1 = u1 := by rw [List.getElem?_toArray, hu1] at e1; exact (Option.some.inj e1).symm
    have q2 : v2 = u2 := by rw [List.getElem?_toArray, hu2] at e2; exact (Option.some.inj e2).symm
    have q3 : v3 = u3 := by rw [List.getElem?_toArray, hu3] at e3; exact (Option.some.inj e3).symm
    subst q1 q2 q3
    refine ⟨.ref T, rfl, W.go elts kk tpos i T { s with heap := h', toks := tk } _ E mid ?_⟩
    intro h'' st2 kp2
    have tup2 : h''.IsTuple T #[v1, v2, v3] := by
      obtain ⟨ot, w1, w2⟩ := tup
      exact ⟨ot, kp2 _ _ (W.apart _ _ _ mid) w1, w2⟩
    have new : ObjOk X.prog X.w (upd H T (.tup [x, y, z])) h'' T (.tup [x, y, z]) := ⟨by show 3 ≤ sizeLine; decide, [v1, v2, v3], .cons ru1 (.cons ru2 (.cons ru3 .nil)), tup2⟩
    have hfs : ∀ d ∈ [N + 5, N + 4, N, N + 1, N + 2], FpOk X pins H d := fun d hd => hf d (by simp only [List.mem_cons, List.not_mem_nil, or_false] at hd ⊢; rcases hd with q | q | q | q | q <;> simp [q])
    have I1 : Inv X pins σ (upd H T (.tup [x, y, z])) { s with heap := h'', toks := tk } := I.turnedNew (ch := [N + 5, N + 4, N, N + 1, N + 2]) (fun d o hd q => kp2 d o hd (kp d o hd q)) hfs hT new
    refine ⟨.ref T, _, I1, rfl, ⟨T, x, y, z, rfl, I.hok.fresh hT, rfl, fun l hl => by rw [I.list_inj hl hqx]; exact hx, fun l hl => by rw [I.list_inj hl hqy]; exact hy, fun l hl => by rw [I.list_inj hl hqz]; exact hz⟩, ?_, fun d hd => ?_⟩
    · obtain ⟨a1, a2, a3, a4, a5, a6⟩ := st2
      exact ⟨a1, a2, a3, a4.1, a5.1, a6.1⟩
    · have lt : d < s.heap.objs.size := by
        obtain ⟨o1, w1, _⟩ := h1
        obtain ⟨o2, w2, _⟩ := h2
        obtain ⟨o3, w3, _⟩ := h3
        obtain ⟨_, _, _, w4⟩ := hTO
        simp only [List.mem_cons, List.not_mem_nil, or_false] at hd
        rcases hd with q | q | q | q | q | q <;> rw [q]
        · exact Heap.lt_size hzz
        · exact Heap.lt_size hTI
        · exact Heap.lt_size w4
        · exact Heap.lt_size w1
        · exact Heap.lt_size w2
        · exact Heap.lt_size w3
      rw [upd_ne (Nat.ne_of_lt (Nat.lt_of_lt_of_le lt hT))]
      exact (hf d hd).1
  done := by
    intro X hP hw hK hc i pins s σ H E I hf st hg
    subst hP hw hK
    obtain ⟨xs, ys, zs, hqx, hqy, hqz, n1, n2, n3⟩ := hg
    obtain ⟨i1, rv1, p1, _⟩ := I.list hqx
    obtain ⟨i2, rv2, p2, _⟩ := I.list hqy
    obtain ⟨i3, rv3, p3, _⟩ := I.list hqz
    have l1 := rv1.length
    have l2 := rv2.length
    have l3 := rv3.length
    have hh : X.A.in1.handled = none := I.ok.hd hc
    have S := zip_sep3 (N := N) (fp1 := [a]) (fp2 := [b]) (fp3 := [c]) (fun d hd => by rw [List.mem_singleton.mp hd]; exact la) (fun d hd => by rw [List.mem_singleton.mp hd]; exact lb) (fun d hd => by rw [List.mem_singleton.mp hd]; exact lc)
    have W := WalksT.zipD3 S (Draws.list (prog := X.prog) (w := X.w) hh N a (Nat.ne_of_lt la) i1.toArray) (Draws.list (prog := X.prog) (w := X.w) hh (N + 1) b (show b ≠ N + 1 from Nat.ne_of_lt (Nat.lt_succ_of_lt lb)) i2.toArray) (Draws.list (prog := X.prog) (w := X.w) hh (N + 2) c (show c ≠ N + 2 from Nat.ne_of_lt (Nat.lt_succ_of_lt (Nat.lt_succ_of_lt lc))) i3.toArray)
    obtain ⟨hzz, hTI, hTO, h1, h2, h3⟩ := st
    have ei : min (min i1.toArray.size i2.toArray.size) i3.toArray.size = i := by simp only [List.size_toArray]; omega
    rw [ei] at W
    refine W.done s _ E ⟨hzz, hTI, hTO, ⟨h1, p1.isList⟩, ⟨h2, p2.isList⟩, h3, p3.isList⟩ ?_
    intro h' tk kp
    refine ⟨rfl, I.turnedL (ch := [N + 5, N + 4, N, N + 1, N + 2]) (fun d o hd q => kp d o hd q) fun d hd => hf d ?_⟩
    simp only [List.mem_cons, List.not_mem_nil, or_false] at hd ⊢
    rcases hd with q | q | q | q | q <;> simp [q]
  self := fun A i s Q E st h => wpAny_pyIter_zip st.1 h
def iZip3 (K : PySem.W.Frag) (ta : TA) : TI := fun σ H R => ta σ H fun vs H1 => ∃ a b c xs ys zs, vs = [.ref a, .ref b, .ref c] ∧ SqL K H1 a xs ∧ SqL K H1 b ys ∧ SqL K H1 c zs ∧ R (Itz3 K a b c) H1
theorem pi_zip3 {X : Cx} {e e2 e3 : Expr} {ta : TA} {p pos tpos : Pos} {elts : List Expr} {kk : Nat} (hg : Gl X "zip") (hm : X.mg "zip" = none) (ha : PA X [e, e2, e3] ta)
    (hs : starEach [e, e2, e3] X.env = (false, eval e X.env) :: starEach [e2, e3] X.env := by rfl) (hpl : (backTo pos (starEach [e2, e3] X.env)).any (·.1) = false := by rfl) :
    PI X (.Tuple elts kk tpos) (.Call (.Name "zip" p) [e, e2, e3] [] pos) (iZip3 X.K ta) := by
  constructor
  intro pins s σ H R I h
  refine Call_ (ld_blt I hg hm PyProof.Rows.boot_zip (PyProof.Rows.callWith_type1 (thn (ha.run pos pins s σ H _ I h) ?_) hs hpl))
  rintro us s1 ⟨vs, H1, I1, r1, a, b, c, xs, ys, zs, rfl, hqx, hqy, hqz, q⟩
  cases r1 with
  | cons r r1 => cases r1 with
    | cons r' r1 => cases r1 with
      | cons r'' r1 =>
        cases r1
        cases r
        cases r'
        cases r''
        obtain ⟨i1, rv1, p1, _⟩ := I1.list hqx
        obtain ⟨i2, rv2, p2, _⟩ := I1.list hqy
        obtain ⟨i3, rv3, p3, _⟩ := I1.list hqz
        refine zip_begins3 (begins_list a i1.toArray) (begins_list b i2.toArray) (begins_list c i3.toArray) p1.isList p2.isList p3.isList ?_
        intro h' hz hTI hTO g1 g2 g3 hsz hk
        refine wpAny_pyIter_zip hz ⟨s1.heap.objs.size + 5, [s1.heap.objs.size + 5, s1.heap.objs.size + 3, s1.heap.objs.size + 4, s1.heap.objs.size, s1.heap.objs.size + 1, s1.heap.objs.size + 2], _, _, H1, rfl, I1.kept (t' := s1.toks) hk, turn_zip3 p1.lt p2.lt p3.lt, ⟨hz, hTI, ⟨_, _, _, hTO⟩, ⟨_, g1, rfl, rfl⟩, ⟨_, g2, rfl, rfl⟩, ⟨_, g3, rfl, rfl⟩⟩, fun d hd => ?_, q⟩
        have le : s1.heap.objs.size ≤ d := by
          simp only [List.mem_cons, List.not_mem_nil, or_false] at hd
          rcases hd with z | z | z | z | z | z <;> rw [z] <;> first | exact Nat.le_refl _ | exact Nat.le_add_right _ _
        exact I1.fpOk le (I1.hok.fresh le)
def Y3 (xs ys zs : List V) : Nat → Hp → V → Hp → Prop := fun i H v H' => ∃ T x y z, v = .ref T ∧ H T = none ∧ H' = upd H T (.tup [x, y, z]) ∧ xs[i]? = some x ∧ ys[i]? = some y ∧ zs[i]? = some z
theorem walk_zip3 {K : PySem.W.Frag} {a b c : Addr} {xs ys zs : List V} {n : Nat} (h1 : xs.length = n) (h2 : ys.length = n) (h3 : zs.length = n) : Walk (Itz3 K a b c) n (fun H => SqL K H a xs ∧ SqL K H b ys ∧ SqL K H c zs) (Y3 xs ys zs) := by
  refine ⟨fun i _ hi q => ?_, fun _ q => ⟨xs, ys, zs, q.1, q.2.1, q.2.2, h1, h2, h3⟩, fun i H v H' _ q y => ?_⟩
  · have k1 : i < xs.length := by omega
    have k2 : i < ys.length := by omega
    have k3 : i < zs.length := by omega
    exact ⟨xs, ys, zs, xs[i], ys[i], zs[i], q.1, q.2.1, q.2.2, by simp [k1], by simp [k2], by simp [k3]⟩
  · obtain ⟨T, x, y, z, e1, e2, e3, e4, e5, e6⟩ := y
    exact ⟨T, x, y, z, e1, e2, e3, e4 xs q.1, e5 ys q.2.1, e6 zs q.2.2⟩
end TP


set_option Elab.async false
set_option linter.all false
set_option maxRecDepth 100000
set_option maxHeartbeats 4000000
/-! an own exception whose __init__ says super().__init__('..') and then self.f = x -/
namespace TP
open PySem PySem.Spec PyProof.Rows L2 NdefX
/-- the j-th statement of the i-th statement of the top, a class -/
def meth (i j : Nat) : Stmt := match top i with
  | .ClassDef (body := b) .. => b.getD j (.Pass ⟨0, 0, 0, 0⟩)
  | _ => .Pass ⟨0, 0, 0, 0⟩
section
variable {prog : Program} {w : World} {A : Around} {E : Value → Shared → Prop} {h : Heap} {g : Array GenState} {d : Drawn} {t : Nat} {os : OsState}
/-- the bound ValueError.__init__ called -/
theorem mw_call {nm q : Str} {C N u e t0 : Addr} {bs bm sub : List Value} {b1 ab : Bool} {sn : List Str} {col : Option Bool} {dd : Option Addr} {k0 k1 k2 k3 k5 : Option Value} {rest : List Value} {Q : Value → Shared → Prop}
    (hC : h.get? C = some (excClassObj nm q C N bs bm b1 sn sub ab col dd k0 k1 k2 k3 k5 "ValueError.__new__")) (he : h.get? e = some (HandSPX.excO C t0)) (hu : h.get? u = some (PySem.W.kxs_mw "ValueError.__init__" e)) (hz : rest.length ≤ sizeLine)
    (hq : ∀ h' t1, (∀ b o, b ≠ e → h.get? b = some o → h'.get? b = some o) → h'.get? e = some (HandSPX.excO C t1) → Q .none ⟨h', g, d, t, os⟩) : wpAny (model prog w) A (call (.ref u) rest) Q E ⟨h, g, d, t, os⟩ := by
  refine wpAny_call (codeAny_of_tree (show wpAny _ A.in1 (callAny (.ref u) ⟨rest, []⟩) _ _ _ from ?_))
  unfold callAny
  refine wpAny_bind (wpAny_load hu ?_)
  dsimp only [PySem.W.kxs_mw]
  rw [show (Value.type "method-wrapper" == Value.type "method" || Value.type "method-wrapper" == Value.type "builtin_function_or_method" || Value.type "method-wrapper" == Value.type "method-wrapper") = true from by decide]
  refine PySem.W.KFB.if_so rfl (wpAny_bind (PySem.W.check_bound_init F.excBase_ValueError.toExcCallFacts hC he rfl (wpAny_bind (wpAny_pure (wpAny_pure ?_)))))
  refine ⟨Code.quiet_builtin _ (by decide +kernel), codeAny_builtin F.excBase_ValueError.initEntry ?_⟩
  rw [Around.under_plainId F.excBase_ValueError.init.plain _]
  wp_walk
  refine hq _ h.objs.size (fun b o hb ho => ?_) (by rw [Heap.get?_update_self _ (Heap.get?_push_of_some _ he) rfl] <;> rfl)
  rw [Heap.get?_update_other _ _ (Ne.symm hb)] <;> exact Heap.get?_push_of_some _ ho
end
/-- self.f = v on the new exception at a -/
def spErr (C : Addr) (f : Str) : Sp := fun vs H Q _ => ∃ (a : Addr) (v : V), vs = [.ref a, v] ∧ H a = some (exo a C none) ∧ ∀ dx, H dx = none → dx ≠ a → Q .non (upd (upd H dx (exd dx [(f, v)])) a (exo a C (some dx)))
section
variable {CX : CXT} {P : Program} {w : World} {K : PySem.W.Frag} {mg : Str → Option Value} {base : Heap}
theorem fn_err {fI C cc cda : Addr} {qual f x msg : Str} {params : Arguments} {body : List Stmt} {scope : Scope} {dV kV doc pm ct oc ccl cl : Value} {an od cdd cld : Option Addr} {osl ccs csl : Array (Option Value)} {vs : Array Value} {file : Str} {tf : Tok} {ar : Arg} {j : Nat ⊕ Unit} {p0 p1 p2 p4 p5 p6 p7 p8 p9 : Pos} {cst : Expr}
    (lk : K.lookup fI = some ⟨oc, od, .func (PySem.W.fnX "__init__" qual params body scope [("__class__", cc)] dV kV doc pm an (.ref cda) ct), osl⟩) (hcd : PySem.W.codeIn K (.ref cda) qual = true)
    (hcode : K.lookup cda = some ⟨ccl, cdd, .fields vs, ccs⟩) (hvs : vs[2]? = some (.str file tf)) (hfile : ((P.main.file : Str) == file) = true) (hcell : K.lookup cc = some ⟨cl, cld, .cell (some (.ref C)), csl⟩)
    (hbody : body = [.Expr (.Call (.Attribute (.Call (.Name "super" p0) [] [] p1) "__init__" p2) [cst] [] p4) p5, .Assign [.Attribute (.Name "self" p6) f p7] (.Name x p8) p9])
    (hcst : ∃ j p3, cst = .Constant (.str msg) j p3) (S : NScope ["self", x, "__class__"] ["self", x] ["__class__"] scope) (hks : scope.names.lookup ("super" : Str) = some .globalImplicit)
    (hp : (params.posonlyargs ++ params.args).head? = some ar) (har : ar.arg = "self") (hx : x ≠ "self") (x1 : (x == ("__debug__" : Str)) = false) (x2 : (x == ("__classdict__" : Str)) = false) (T : OexC K C) (hsub : PySem.W.mroIn K C (.ref C) = some true) (hany : PySem.W.nsIn K cStatics "thirdparty.any" = some none)
    (hm : PySem.W.ks_superIn K C C "__init__" = some (some (.builtin "ValueError.__init__"))) (hB : PySem.W.subIn K (.ref C) (.type "ValueError") = some true) (hsup : mg "super" = none)
    {pl : Addr → Addr → Sem Bool} (hev : ∀ L f' : Addr, eval (.Call (.Attribute (.Call (.Name "super" p0) [] [] p1) "__init__" p2) [cst] [] p4) (PySem.W.envX qual scope L f' (.ref cda) [("__class__", cc)]) = (do let ov ← attributeBase (.Call (.Name "super" p0) [] [] p1) "__init__" (PySem.W.envX qual scope L f' (.ref cda) [("__class__", cc)]) (eval (.Call (.Name "super" p0) [] [] p1) (PySem.W.envX qual scope L f' (.ref cda) [("__class__", cc)])); standAt p2.atName; let (m, first) ← holding [ov] (getMethod ov "__init__" (pl L f')); callWith p4 m first (backTo p4 (starEach [cst] (PySem.W.envX qual scope L f' (.ref cda) [("__class__", cc)]))) []))
    (htop : (P.main.scope.names.lookup ("super" : Str)).isSome = false) (hno : PySem.W.findIn K (.ref C) f = some none) :
    FnOk P w K mg base CX 1 fI (PySem.W.fnX "__init__" qual params body scope [("__class__", cc)] dV kV doc pm an (.ref cda) ct) ["self", x] (spErr C f) := by
  refine ⟨fun vs H Q E ⟨a, v, e, _⟩ => by rw [e] <;> rfl, ?_⟩
  intro A outer s H args us vs0 Q E hr e0 hb rv ⟨a, v, evs, ea, q⟩
  subst evs
  have KX : K.In s.heap := e0.mod.kin.keeps fun b o z => (e0.bs b o z).1
  have lim : s.heap.NoLimit := e0.mod.nolimit.keeps fun b o z => (e0.bs b o z).1
  cases rv with
  | @cons _ u0 _ us1 ru rv => cases rv with
    | @cons _ u1 _ us2 ru1 rv =>
      cases rv
      obtain rfl : u0 = Value.ref a := ru
      refine ks_codeAny_call_defAt hr.depth (KX _ _ lk) rfl lim (PySem.W.codeRec_of KX hcd) rfl hb S.nocell (fun y hy => S.par y.1 (List.of_mem_zip hy).1) ?_ S.co S.gen S.kind
      intro h₁ hns kp
      let NFn : NF := ⟨"__init__", qual, params, body, scope, [("__class__", cc)], cda⟩
      have C0 : s.heap.get? cc = some ⟨cl, cld, .cell (some (.ref C)), csl⟩ := KX _ _ hcell
      have CA : CellsAt NFn.cl ["__class__"] [none] s.heap H := by
        refine ⟨rfl, fun y c hy => ?_, fun y z c h1 h2 => ?_, fun i y hi => ?_⟩
        · obtain ⟨rfl, rfl⟩ : y = "__class__" ∧ c = cc := by
            simp only [NFn, List.lookup] at hy
            split at hy
            · rename_i z
              exact ⟨beq_iff_eq.mp z, (Option.some.inj hy).symm⟩
            · cases hy
          exact ⟨(e0.bs _ _ (e0.mod.kin _ _ hcell)).2, _, _, C0, rfl⟩
        · have at_ : ∀ {y : Str}, NFn.cl.lookup y = some c → y = "__class__" := fun {y} hy => by
            simp only [NFn, List.lookup] at hy
            split at hy
            · rename_i z
              exact beq_iff_eq.mp z
            · cases hy
          rw [at_ h1, at_ h2]
        · cases i with
          | zero =>
            have ey : "__class__" = y := Option.some.inj hi
            subst ey
            exact ⟨cc, rfl, fun v hv => (nomatch hv)⟩
          | succ i => simp at hi
      have hbod : NFn.body = body := rfl
      have I : Inv (ncx CX P w K mg base ["self", x, "__class__"] NFn fI A outer s H E) [] (startF ["self", x, "__class__"] [.ref a, v] [none]) H { s with heap := h₁, toks := s.toks + ([("self" : Str), x].zip [Value.ref a, u1]).length } :=
        inv_startN S hr.hd e0 rfl (.cons rfl (.cons ru1 .nil)) CA hns kp
      have K1 : K.In h₁ := KX.keeps kp
      obtain ⟨nm, qn, N, bs, bm, sn, sub, ab, col, dd, k0, k1, k2, k3, k5, hC, hbm⟩ := T.cls
      have hcl : PySem.W.clsIn K C = some { name := nm, bases := bs, mro := .ref C :: bm, ns := N, qualname := qn, hasDict := true, slotNames := sn, subclasses := sub, abstract := ab, collection := col, hasDel := false } := by
        unfold PySem.W.clsIn
        rw [hC] <;> rfl
      obtain ⟨t1, ho⟩ := exo_at I.hok ea
      have hne : a ≠ C := fun z => by
        have z1 := K1 _ _ hC
        rw [← z, show h₁.get? a = _ from ho] at z1
        cases z1
      have hkc : scope.names.lookup ("__class__" : Str) = some .free := S.frk _ List.mem_cons_self
      have hka : scope.names.lookup ("self" : Str) = some .local := S.par _ List.mem_cons_self
      subst hbody
      obtain ⟨j, p3, rfl⟩ := hcst
      refine ks_wpAt_execs_cons (ks_wpAt_Expr_any (ks_wpAt_MethodCall ?_ (hev _ _)) (by show (scope.kind == .module && _) = false; rw [S.kind] <;> rfl) rfl)
      refine ks_wpAt_super_base hks hkc rfl rfl (K1 _ _ lk) rfl hp rfl (K1 _ _ hcode) rfl hvs hfile htop ?_
      obtain ⟨mb, b1, b2⟩ := I.mod.blt
      refine PySem.W.ks_loadName_global S.kind hks (Calls.loadGlobal_builtin (mg := mg) (mb := mb) (v := .type "super") (I.mod.glob.keeps I.bk) hsup (b1.keeps I.bk) ((b2 "super" (by decide)).trans (by decide +kernel)) ⟨rfl, ?_⟩)
      refine wpAny_loadName_free S.kind hkc rfl ⟨_, K1 _ _ hcell, rfl⟩ ?_
      rw [har]
      refine wpAny_loadName_local S.kind hka hns (v := .ref a) ?_ ?_
      · show List.lookup ("self" : Str) [(x, u1), (("self" : Str), Value.ref a)] = _
        simp [List.lookup, beq_eq_false_iff_ne.mpr (Ne.symm hx)]
      refine ks_wpAny_isType_cls (K1 _ _ hC) rfl ⟨rfl, ?_⟩
      refine ks_wpAny_call_super (K1 _ _ hC) rfl ho rfl (fun c z => by cases z) (PySem.W.looks_mroIn K1 hsub) ?_
      intro h2 hso k2'
      have K2 := K1.keeps k2'
      have I2 := I.kept (t' := s.toks + ([("self" : Str), x].zip [Value.ref a, u1]).length) k2'
      obtain ⟨t2, ho2⟩ := exo_at I2.hok ea
      have JA : PySem.W.InstAt h2 a { cls := .ref C, dict := none, data := .fields #[.ref t2, .none, .none, .none, .bool false, .none] } C none := ⟨ho2, rfl, rfl, trivial⟩
      have hm' : PySem.W.alongIn K "__init__" (((Value.ref C :: bm).dropWhile (· != .ref C)).drop 1) = some (some (.builtin "ValueError.__init__")) := by
        have z := hm
        unfold PySem.W.ks_superIn at z
        rw [hcl] at z
        exact z
      refine PySem.W.kxs_getMethod PySem.W.kxs_ValueError hso (PySem.W.looks_opaque K2 hany) (l₀ := Value.ref C :: bm) ?_ rfl K2 hm' (JA.type.andThen (PySem.W.looks_subIn K2 hB)) hne (by decide) ?_
      · exact fun A Q E s k q => wpAny_bind ((PySem.W.looks_clsIn K2 hcl) A _ E s k (wpAny_pure q))
      refine PySem.W.kxs_callWith (i := "ValueError.__init__") (x := a) rfl (Calls.evalArgs_plain (spliced_more (Calls.Constant_str (spliced_none ⟨?_, ?_⟩)) rfl))
      · exact Heap.get?_push_at rfl rfl
      have K3 : K.In (h2.push (PySem.W.kxs_mw "ValueError.__init__" a)) := K2.keeps fun b o z => Heap.get?_push_of_some _ z
      have ho3 : (h2.push (PySem.W.kxs_mw "ValueError.__init__" a)).get? a = some (HandSPX.excO C t2) := Heap.get?_push_of_some _ ho2
      refine mw_call (K3 _ _ hC) ho3 (Heap.get?_push_at rfl rfl) (by show 1 ≤ sizeLine; decide) ?_
      intro h4 t4 k4 ho4
      have I3 := I2.kept (t' := s.toks + ([("self" : Str), x].zip [Value.ref a, u1]).length + 1 + 1) (h' := h2.push (PySem.W.kxs_mw "ValueError.__init__" a)) fun b o z => Heap.get?_push_of_some _ z
      have I4 := I3.write (t' := s.toks + ([("self" : Str), x].zip [Value.ref a, u1]).length + 1 + 1) (x := a) (e := a) (o := exo a C none) (by rw [ea]; exact True.intro) (.inl rfl) k4 ⟨_, ho4⟩ (exo_ok ho4)
      have eu : upd H a (exo a C none) = H := by
        funext b
        by_cases hb : b = a
        · rw [hb, upd_same, ea]
        · rw [upd_ne hb]
      rw [eu] at I4
      have body2 : PSs (ncx CX P w K mg base ["self", x, "__class__"] NFn fI A outer s H E) [.Assign [.Attribute (.Name "self" p6) f p7] (.Name x p8) p9] (tOst K f (tVar 0) (tVar 1)) :=
        pss_one (ps_ost (pe_var (i := 0) rfl (.inl hka)) (pe_var (i := 1) rfl (.inl (S.par _ (List.mem_cons_of_mem _ List.mem_cons_self))) x1 x2))
      refine wpAt_of_wpAny (wpAny_mono (body2.run [] _ _ H { nx := fun _ H' => Q .non H', rt := Q } I4 ?_) (fun fl s' hs => ?_) fun e s' hs => hs)
      · exact ⟨v, rfl, .ref a, rfl, a, C, rfl, T, hno, .inl ⟨ea, fun dx n ne => q dx n ne⟩⟩
      match fl, hs with
      | .ret u, ⟨v, σ', H', J, r, q⟩ => exact ⟨v, H', J.os, J.bare, J.base, J.hok, r, q⟩
      | .next, ⟨σ', H', J, q⟩ => exact ⟨V.non, H', J.os, J.bare, J.base, J.hok, rfl, q⟩
      | .brk, ⟨_, _, _, q⟩ => exact q.elim
      | .cont, ⟨_, _, _, q⟩ => exact q.elim
end
end TP


set_option Elab.async false
set_option linter.all false
set_option maxRecDepth 100000
set_option maxHeartbeats 4000000
/-! canvases: their classes, what one holds -/
namespace TP
open PySem PySem.Spec PyProof.Rows L2
/-- which classes: all four; those that keep nothing, those that keep; those that count -/
structure Kin where
  fam : Addr → Prop
  pln : Addr → Prop
  kpg : Addr → Prop
  cnt : Addr → Prop
structure Fam (K : PySem.W.Frag) (C : Addr) : Prop where
  cl : Cls K C
  fi : NoAttr K C "first_dots"
  he : NoAttr K C "here_dots"
  td : NoAttr K C "told_deeds"
  pd : NoAttr K C "past_dots"
structure Kin.Ok (F : Kin) (K : PySem.W.Frag) : Prop where
  fam : ∀ C, F.fam C → Fam K C
  pln : ∀ C, F.pln C → F.fam C
  kpg : ∀ C, F.kpg C → F.fam C
  cnt : ∀ C, F.cnt C → F.fam C
/-- the class at C has the method m: the def st of the text -/
structure Mm (K : PySem.W.Frag) (m qual : Str) (st : Stmt) (C : Addr) : Prop where
  ex : ∃ f fd, Cls K C ∧ Meth K C m f ∧ FnT K m qual st f fd
structure Pp (K : PySem.W.Frag) (m qual : Str) (st : Stmt) (C : Addr) : Prop where
  ex : ∃ p f fd, Cls K C ∧ PropOf K C m p f ∧ FnT K m qual st f fd
section
variable {P : Program} {w : World} {K : PySem.W.Frag} {mg : Str → Option Value} {base : Heap} {m qual : Str} {st : Stmt} {N ps : List Str} {k : Nat} {sp : Sp} {C : Addr}
theorem mu_of (D : Mm K m qual st C) (S : FnScope N ps (defScope st))
    (b : ∀ (kV doc pm : Value) (an : Option Addr) (cdv ct : Value) (us : List Value), us.length = ps.length → bindArgs (PySem.W.fnOf m qual (defArgs st) (defBody st) (defScope st) .none kV doc pm an cdv ct) ⟨us, []⟩ = pure (ps.zip us))
    (len : ∀ vs H Q E, sp vs H Q E → vs.length = ps.length)
    (body : ∀ (f : Addr) (cdv : Value) (A : Around) (outer : List Env) (s : Shared) (H : Hp) (vs : List V) (Q : VK) (E : XK), Room k (A.deeper (envOfC qual (defScope st) s.heap.objs.size f cdv)) → sp vs H Q E →
      ∃ t, PSs (cxOf C8.CX0 P w K mg base N qual (defScope st) f cdv A outer s H E).nox (defBody st) t ∧ t { nx := fun _ H' => Q .non H', rt := Q } (start N vs) H) : MU P w K mg base C8.CX0 (k + 1) m C sp := by
  obtain ⟨f, fd, c, hm, F⟩ := D.ex
  refine ⟨f, fd, ps, c, hm, F.ok S len (fun cdv A outer s H vs Q E hr h => ?_), F.bindsN b⟩
  obtain ⟨t, h1, h2⟩ := body f cdv A outer s H vs Q E hr h
  exact ⟨t, h1.nox, h2⟩
theorem mu_ofX (D : Mm K m qual st C) (S : FnScope N ps (defScope st))
    (b : ∀ (kV doc pm : Value) (an : Option Addr) (cdv ct : Value) (us : List Value), us.length = ps.length → bindArgs (PySem.W.fnOf m qual (defArgs st) (defBody st) (defScope st) .none kV doc pm an cdv ct) ⟨us, []⟩ = pure (ps.zip us))
    (len : ∀ vs H Q E, sp vs H Q E → vs.length = ps.length)
    (body : ∀ (f : Addr) (cdv : Value) (A : Around) (outer : List Env) (s : Shared) (H : Hp) (vs : List V) (Q : VK) (E : XK), Room k (A.deeper (envOfC qual (defScope st) s.heap.objs.size f cdv)) → sp vs H Q E →
      ∃ t, PSs (cxOf (L2.CX P w) P w K mg base N qual (defScope st) f cdv A outer s H E) (defBody st) t ∧ t { nx := fun _ H' => Q .non H', rt := Q } (start N vs) H) : MU P w K mg base (L2.CX P w) (k + 1) m C sp := by
  obtain ⟨f, fd, c, hm, F⟩ := D.ex
  exact ⟨f, fd, ps, c, hm, F.ok S len (fun cdv A outer s H vs Q E hr h => body f cdv A outer s H vs Q E hr h), F.bindsN b⟩
theorem pu_of (D : Pp K m qual st C) (S : FnScope N ps (defScope st))
    (b : ∀ (kV doc pm : Value) (an : Option Addr) (cdv ct : Value) (us : List Value), us.length = ps.length → bindArgs (PySem.W.fnOf m qual (defArgs st) (defBody st) (defScope st) .none kV doc pm an cdv ct) ⟨us, []⟩ = pure (ps.zip us))
    (len : ∀ vs H Q E, sp vs H Q E → vs.length = ps.length)
    (body : ∀ (f : Addr) (cdv : Value) (A : Around) (outer : List Env) (s : Shared) (H : Hp) (vs : List V) (Q : VK) (E : XK), Room k (A.deeper (envOfC qual (defScope st) s.heap.objs.size f cdv)) → sp vs H Q E →
      ∃ t, PSs (cxOf C8.CX0 P w K mg base N qual (defScope st) f cdv A outer s H E).nox (defBody st) t ∧ t { nx := fun _ H' => Q .non H', rt := Q } (start N vs) H) : PU P w K mg base C8.CX0 (k + 1) m C sp := by
  obtain ⟨p, f, fd, c, hm, F⟩ := D.ex
  refine ⟨p, f, fd, ps, c, hm, F.ok S len (fun cdv A outer s H vs Q E hr h => ?_), F.bindsN b⟩
  obtain ⟨t, h1, h2⟩ := body f cdv A outer s H vs Q E hr h
  exact ⟨t, h1.nox, h2⟩
theorem pq_of (D : Pp K m qual st C) (S : FnScope N ps (defScope st))
    (b : ∀ (kV doc pm : Value) (an : Option Addr) (cdv ct : Value) (us : List Value), us.length = ps.length → bindArgs (PySem.W.fnOf m qual (defArgs st) (defBody st) (defScope st) .none kV doc pm an cdv ct) ⟨us, []⟩ = pure (ps.zip us))
    (len : ∀ vs H Q E, sp vs H Q E → vs.length = ps.length)
    (body : ∀ (f : Addr) (cdv : Value) (A : Around) (outer : List Env) (s : Shared) (H : Hp) (vs : List V) (Q : VK) (E : XK) (p : Addr × Obj), L2H.RoomH k (A.deeper (envOfC qual (defScope st) s.heap.objs.size f cdv)) → sp vs H Q E →
      ∃ t, PSs (L2H.cxH C8.CX0 P w K mg base N qual (defScope st) f cdv A outer s H E p) (defBody st) t ∧ t { nx := fun _ H' => Q .non H', rt := Q } (start N vs) H) : PQ P w K mg base C8.CX0 (k + 1) m C sp := by
  obtain ⟨p, f, fd, c, hm, F⟩ := D.ex
  obtain ⟨oc, od, dV, kV, doc, pm, an, cdv, ct, osl, rfl, lk, hcd, hD, hK⟩ := F.ex
  exact ⟨p, f, _, ps, c, hm, fnQ_of lk hcd S len fun A outer s H vs Q E p hr h => body f cdv A outer s H vs Q E p hr h, F.bindsN b⟩
/-- a class of the module, called -/
structure Mkr (P : Program) (w : World) (K : PySem.W.Frag) (mg : Str → Option Value) (base : Heap) (k : Nat) (x : Str) (C : Addr) (sp : Sp) : Prop where
  ex : ∃ f fd ps, Mk K C f ∧ mg x = some (.ref C) ∧ FnOk P w K mg base C8.CX0 k f fd ps sp ∧ Binds K fd ps []
theorem pe_mk {X : Cx} {j : Nat} {x : Str} {p pos : Pos} {e : Expr} {es : List Expr} {t : TA} (h : Mkr X.prog X.w X.K X.mg X.base k x C sp) (hr : Room j X.A) (hk : k + 1 ≤ j) (hg : Gl X x) (ha : PA X (e :: es) t) (hdb : (x == ("__debug__" : Str)) = false := by decide)
    (he : starEach (e :: es) X.env = (false, eval e X.env) :: starEach es X.env := by rfl) (hpl : (backTo pos (starEach es X.env)).any (·.1) = false := by rfl) : PE X (.Call (.Name x p) (e :: es) [] pos) (tMake C sp [] C8.E0 t) := by
  obtain ⟨f, fd, ps, M, hm, F, hb⟩ := h.ex
  exact pe_make M F (hr.mono hk) hg hm hb .nil C8.pass0 ha hdb he hpl
/-- the exception Lost -/
structure LostOk (P : Program) (w : World) (K : PySem.W.Frag) (mg : Str → Option Value) (base : Heap) (L : Addr) : Prop where
  T : OexC K L
  xf : XfC K L
  no : PySem.W.findIn K (.ref L) "number" = some none
  ex : ∃ f fd, PySem.W.findIn K (.ref L) "__init__" = some (some (.ref f)) ∧ PySem.W.typeIn K (.ref f) = some (.type "function") ∧ FnOk P w K mg base C8.CX0 1 f fd ["self", "number"] (spErr L "number") ∧ Binds K fd ["self", "number"] []
  at_ : mg "Lost" = some (.ref L)
  exm : PySem.W.exmOne K (.ref L) (.ref L) = some true
/-- raise Lost(e) -/
theorem ps_lost {X : Cx} {j : Nat} {L : Addr} {W : WX} {e : Expr} {p pos pos' : Pos} {ta : TA} (h : LostOk X.prog X.w X.K X.mg X.base L) (hc : X.calm = true) (tk : Takes X W) (hr : Room j X.A) (hk : 2 ≤ j) (hg : Gl X "Lost") (ha : PA X [e] ta)
    (he : starEach [e] X.env = [(false, eval e X.env)] := by rfl) (hpl : (backTo pos (starEach [] X.env)).any (·.1) = false := by rfl) :
    PS X (.Raise (some (.Call (.Name "Lost" p) [e] [] pos)) none pos') (fun _ σ H => tMkO L (spErr L "number") [] ta σ H fun cls d H' => W cls d σ H') := by
  obtain ⟨f, fd, h1, h2, F, hb⟩ := h.ex
  exact ps_raise hc tk (pmk_oex (p := p) (pos := pos) h.T h1 h2 F (hr.mono hk) hb .nil (fun _ _ _ _ _ _ _ z => z.elim) hg h.at_ ha (by decide) he hpl)
theorem lost_made {L : Addr} {v : V} {H1 : Hp} {Q : XK} (h : ∀ d H', H1 d = none → Same H1 H' → H' d = some (.xd [("number", v)]) → Q (.ref L) (some d) H') : [v].length ≤ 1000 ∧ ∀ a, H1 a = none → spErr L "number" (.ref a :: ([v] ++ [])) (upd H1 a (exo a L none))
    (fun v H2 => v = .non ∧ ∃ (d : Addr) (fs : List (Str × V)), H2 a = some (exo a L (some d)) ∧ H2 d = some (exd d fs) ∧ H1 d = none ∧ Q (.ref L) (some d) (upd (del H2 a) d (.xd fs))) (fun _ _ _ => False) := by
  refine ⟨by show 1 ≤ 1000; decide, fun a ha => ⟨a, v, rfl, upd_same, fun d hd ne => ⟨rfl, d, [("number", v)], upd_same, ?_, ?_, ?_⟩⟩⟩
  · rw [upd_ne ne]
    exact upd_same
  · rwa [upd_ne ne] at hd
  · rw [upd_ne ne] at hd
    refine h d _ hd (fun b u e => ?_) upd_same
    have n1 : b ≠ a := ne_of_none e ha
    have n2 : b ≠ d := ne_of_none e hd
    rw [upd_ne n2, del_ne n1, upd_ne n1, upd_ne n2, upd_ne n1]
    exact e
end
/-! ### what a canvas holds -/
inductive Deed
  | turn
  | shear
  | walk (b : Addr)
def IsDd (H : Hp) (v : V) : Deed → Prop
  | .turn => ∃ a x, v = .ref a ∧ H a = some (.tup [.str "turn", x])
  | .shear => ∃ a x y, v = .ref a ∧ H a = some (.tup [.str "shear", x, y])
  | .walk b => ∃ a, v = .ref a ∧ H a = some (.tup [.str "walk", .ref b])
theorem tpl_Dd : Tpl IsDd := fun _ _ _ d e h => match d, h with
  | .turn, ⟨a, x, h1, h2⟩ => ⟨a, x, h1, e _ _ h2⟩
  | .shear, ⟨a, x, y, h1, h2⟩ => ⟨a, x, y, h1, e _ _ h2⟩
  | .walk _, ⟨a, h1, h2⟩ => ⟨a, h1, e _ _ h2⟩
/-- a list of n things at a, none of them td, pd -/
structure Old (H : Hp) (td pd a : Addr) (n : Nat) : Prop where
  at_ : ∃ xs, H a = some (.lst xs) ∧ xs.length = n
  few : n ≤ 400
  td : a ≠ td
  pd : a ≠ pd
structure Dk (H : Hp) (o td pd C : Addr) (ds : List Deed) (pa : List (Addr × Nat)) (he : Addr) (ps : List Px) : Prop where
  obj : ∃ dx fi, H o = some (.ins C dx [("first_dots", .ref fi), ("here_dots", .ref he), ("told_deeds", .ref td), ("past_dots", .ref pd)])
  here : Pic H (.ref he) ps
  few : ps.length ≤ 400
  ht : he ≠ td
  hp : he ≠ pd
  tp : td ≠ pd
  told : ∃ xs, H td = some (.lst xs) ∧ Paired (IsDd H) xs ds
  past : H pd = some (.lst (pa.map fun q => V.ref q.1))
  walks : ∀ b, Deed.walk b ∈ ds → ∃ n, Old H td pd b n
  olds : ∀ q ∈ pa, Old H td pd q.1 q.2
  len : ds.length = pa.length
  lo : pa.length ≤ 10
/-- all stays but o, td, pd -/
def Mv (o td pd : Addr) (H H' : Hp) : Prop := ∀ b u, b ≠ o → b ≠ td → b ≠ pd → H b = some u → H' b = some u
theorem Mv.of {o td pd : Addr} {H H' : Hp} (e : Same H H') : Mv o td pd H H' := fun b u _ _ _ h => e b u h
theorem Mv.trans {o td pd : Addr} {H H1 H2 : Hp} (a : Mv o td pd H H1) (b : Mv o td pd H1 H2) : Mv o td pd H H2 := fun c u h1 h2 h3 h => b c u h1 h2 h3 (a c u h1 h2 h3 h)
theorem Old.same {H H' : Hp} {td pd a : Addr} {n : Nat} (e : ∀ u, H a = some u → H' a = some u) (h : Old H td pd a n) : Old H' td pd a n := by
  obtain ⟨⟨xs, h1, h2⟩, h3, h4, h5⟩ := h
  exact ⟨⟨xs, e _ h1, h2⟩, h3, h4, h5⟩
section
variable {H H' : Hp} {o td pd C he : Addr} {ds : List Deed} {pa : List (Addr × Nat)} {ps : List Px}
theorem Dk.same (h : Dk H o td pd C ds pa he ps) (e : Same H H') : Dk H' o td pd C ds pa he ps := by
  obtain ⟨⟨dx, fi, h1⟩, h2, h3, h4, h5, h6, ⟨xs, h7, h8⟩, h9, h10, h11, h12, h13⟩ := h
  exact ⟨⟨dx, fi, e _ _ h1⟩, Pic.same e h2, h3, h4, h5, h6, ⟨xs, e _ _ h7, Paired.imp (fun x d q => tpl_Dd _ _ x d (sm_t e) q) h8⟩, e _ _ h9, fun b hb => (h10 b hb).imp fun n z => z.same (e b), fun q hq => (h11 q hq).same (e q.1), h12, h13⟩
theorem Dk.tsm (h : Dk H o td pd C ds pa he ps) (e : Mv o td pd H H') : TSm H H' := by
  obtain ⟨⟨dx, fi, h1⟩, h2, h3, h4, h5, h6, ⟨xs, h7, h8⟩, h9, h10, h11, h12, h13⟩ := h
  intro b ys hb
  refine e b _ ?_ ?_ ?_ hb
  · exact ne_of hb h1 (by intro z; cases z)
  · exact ne_of hb h7 (by intro z; cases z)
  · exact ne_of hb h9 (by intro z; cases z)
theorem Dk.o_td (h : Dk H o td pd C ds pa he ps) : o ≠ td := by
  obtain ⟨⟨dx, fi, h1⟩, h2, h3, h4, h5, h6, ⟨xs, h7, h8⟩, h9, h10, h11, h12, h13⟩ := h
  exact ne_of h1 h7 (by intro z; cases z)
theorem Dk.o_pd (h : Dk H o td pd C ds pa he ps) : o ≠ pd := by
  obtain ⟨dx, fi, h1⟩ := h.obj
  exact ne_of h1 h.past (by intro z; cases z)
/-- a list that is not td, pd stays -/
theorem Dk.lst (h : Dk H o td pd C ds pa he ps) (e : Mv o td pd H H') {α : Type} {R : Hp → V → α → Prop} (m : Tpl R) {b : Addr} {rs : List α} (h1 : b ≠ td) (h2 : b ≠ pd) (hb : IsL R H (.ref b) rs) : IsL R H' (.ref b) rs := by
  obtain ⟨dx, fi, ho⟩ := h.obj
  obtain ⟨a, xs, e1, e2, e3⟩ := hb
  cases e1
  exact ⟨b, xs, rfl, e b _ (ne_of e2 ho (by intro z; cases z)) h1 h2 e2, Paired.imp (fun x d q => m _ _ x d (h.tsm e) q) e3⟩
theorem Dk.old (h : Dk H o td pd C ds pa he ps) (e : Mv o td pd H H') {b : Addr} {n : Nat} (hb : Old H td pd b n) : Old H' td pd b n := by
  obtain ⟨dx, fi, ho⟩ := h.obj
  refine hb.same fun u hu => ?_
  obtain ⟨xs, h1, h2⟩ := hb.at_
  exact e b _ (ne_of h1 ho (by intro z; cases z)) hb.td hb.pd hu
end
end TP


set_option Elab.async false
set_option linter.all false
set_option maxRecDepth 100000
set_option maxHeartbeats 4000000
namespace TP
open PySem PySem.Spec PyProof.Rows L2
open C8 (Cal pe_c pe_gc)
section
variable {P : Program} {w : World} {K : PySem.W.Frag} {mg : Str → Option Value} {base : Heap}


theorem kp_x {x : Addr} {H H' : Hp} {o : HO} (k : ∀ b u, b ≠ x → H b = some u → H' b = some u) : ∀ b u, b ≠ x → H b = some u → upd H' x o b = some u := fun b u n h => by
  rw [upd_ne n]
  exact k b u n h
theorem kp_n {x p : Addr} {H H' : Hp} {o : HO} (k : ∀ b u, b ≠ x → H b = some u → H' b = some u) (hp : H' p = none) : ∀ b u, b ≠ x → H b = some u → upd H' p o b = some u := fun b u n h => by
  rw [upd_ne (ne_of_none (k b u n h) hp)]
  exact k b u n h
theorem fr_x {x p : Addr} {u0 : HO} {H H' : Hp} (k : ∀ b u, b ≠ x → H b = some u → H' b = some u) (hx : H' x = some u0) (hp : H' p = none) : H p = none := by
  cases e : H p with
  | none => rfl
  | some u =>
    rw [k p u (Ne.symm (ne_of_none hx hp)) e] at hp
    cases hp

def s_init (F : Kin) : Sp := fun vs H Q _ => ∃ (x C dx : Addr) (v : V) (ps : List Px), vs = [.ref x, v] ∧ F.fam C ∧ H x = some (.ins C dx []) ∧ Pic H v ps ∧ Asc ps ∧ ps.length ≤ 400 ∧ ∀ H' td pd he, (∀ b u, b ≠ x → H b = some u → H' b = some u) → H td = none → H pd = none → H he = none → Dk H' x td pd C [] [] he ps → Q .non H'
theorem sc_m_init : FnScope ["self", "pixels"] ["self", "pixels"] (defScope (meth 63 1)) := ⟨rfl, rfl, rfl, by decide +kernel, rfl, by decide +kernel, by decide +kernel⟩
theorem m_init {F : Kin} (hF : F.Ok K) (D : ∀ C, F.fam C → Mm K "__init__" "Canvas.__init__" (meth 63 1) C) (T : Fre mg) (h_need_pixels : Cal P w K mg base 4 "need_pixels" s_need_pixels [])  : ∀ C, F.fam C → MU P w K mg base C8.CX0 5 "__init__" C (s_init F) := by
  intro C0 hC0
  refine mu_of (D C0 hC0) sc_m_init (fun _ _ _ _ _ _ us hl => match us, hl with | [_, _], _ => rfl) (fun vs H Q E h => ?_) (fun f cdv A outer s H vs Q E hr h => ?_)
  · obtain ⟨_, _, _, _, _, rfl, _⟩ := h
    rfl
  · obtain ⟨x, C, dx, v, ps, rfl, hC, hx, ⟨a, xs, rfl, ha, hp⟩, hs, hl, k⟩ := h
    refine ⟨_, (pss_cons (ps_expr (pe_c h_need_pixels hr (by decide) (by rfl) (pa_cons (pv 1) pa_nil))) (pss_cons (ps_fld (pv 0) (pe_callTy call_list_of (by rfl) T.lst (by decide +kernel) (pa_cons (pv 1) pa_nil)) rfl) (pss_cons (ps_fld (pv 0) (pe_callTy call_list_of (by rfl) T.lst (by decide +kernel) (pa_cons (pv 1) pa_nil)) rfl) (pss_cons (ps_fld (pv 0) (pe_lst pa_nil) rfl) (pss_one (ps_fld (pv 0) (pe_lst pa_nil) rfl)))))), ?_⟩
    have fam := hF.fam C hC
    refine ⟨_, rfl, _, ps, rfl, ⟨a, xs, rfl, ha, hp⟩, hs, hl, fun H1 e1 => ?_⟩
    have ax : a ≠ x := ne_of ha hx (by intro z; cases z)
    have k1 : ∀ b u, b ≠ x → H b = some u → H1 b = some u := fun b u _ h => e1 b u h
    have x1 := e1 _ _ hx
    refine ⟨_, rfl, a, xs, rfl, .inl (SqL.of (k1 _ _ ax ha)), fun f1 n1 => ?_⟩
    have k2 := kp_n (o := .lst xs) k1 n1
    refine ⟨_, rfl, x, C, dx, [], rfl, (by rw [upd_ne (ne_of_none x1 n1)]; exact x1), fam.cl, fam.fi, by decide, ?_⟩
    have k3 := kp_x (o := .ins C dx (putF "first_dots" (.ref f1) [])) k2
    refine ⟨_, rfl, a, xs, rfl, .inl (SqL.of (k3 _ _ ax ha)), fun f2 n2 => ?_⟩
    have k4 := kp_n (o := .lst xs) k3 n2
    have x4 := ne_of_none (upd_same (H := upd H1 f1 (.lst xs)) (a := x) (o := .ins C dx (putF "first_dots" (.ref f1) []))) n2
    refine ⟨_, rfl, x, C, dx, _, rfl, (by rw [upd_ne x4]; exact upd_same), fam.cl, fam.he, by show 1 < 1000; decide, ?_⟩
    have k5 := kp_x (o := .ins C dx (putF "here_dots" (.ref f2) (putF "first_dots" (.ref f1) []))) k4
    refine ⟨Nat.zero_le _, fun f3 n3 => ?_⟩
    have k6 := kp_n (o := .lst []) k5 n3
    have x6 := ne_of_none (upd_same (a := x) (o := .ins C dx (putF "here_dots" (.ref f2) (putF "first_dots" (.ref f1) [])))) n3
    refine ⟨_, rfl, x, C, dx, _, rfl, (by rw [upd_ne x6]; exact upd_same), fam.cl, fam.td, by show 2 < 1000; decide, ?_⟩
    have k7 := kp_x (o := .ins C dx (putF "told_deeds" (.ref f3) (putF "here_dots" (.ref f2) (putF "first_dots" (.ref f1) [])))) k6
    refine ⟨Nat.zero_le _, fun f4 n4 => ?_⟩
    have k8 := kp_n (o := .lst []) k7 n4
    have x8 := ne_of_none (upd_same (a := x) (o := .ins C dx (putF "told_deeds" (.ref f3) (putF "here_dots" (.ref f2) (putF "first_dots" (.ref f1) []))))) n4
    refine ⟨_, rfl, x, C, dx, _, rfl, (by rw [upd_ne x8]; exact upd_same), fam.cl, fam.pd, by show 3 < 1000; decide, ?_⟩
    have k9 := kp_x (o := .ins C dx (putF "past_dots" (.ref f4) (putF "told_deeds" (.ref f3) (putF "here_dots" (.ref f2) (putF "first_dots" (.ref f1) []))))) k8
    have q2 : f2 ≠ x := x4.symm
    have q3 : f3 ≠ x := x6.symm
    have q4 : f4 ≠ x := x8.symm
    have s3 : f2 ≠ f3 := ne_of_none (show upd (upd _ f2 (.lst xs)) x _ f2 = some (.lst xs) by rw [upd_ne q2]; exact upd_same) n3
    have s4 : f2 ≠ f4 := ne_of_none (show upd (upd (upd (upd _ f2 (.lst xs)) x _) f3 _) x _ f2 = some (.lst xs) by rw [upd_ne q2, upd_ne s3, upd_ne q2]; exact upd_same) n4
    have s5 : f3 ≠ f4 := ne_of_none (show upd (upd _ f3 (.lst [])) x _ f3 = some (.lst []) by rw [upd_ne q3]; exact upd_same) n4
    refine k _ f3 f4 f2 k9 (fr_x k5 upd_same n3) (fr_x k7 upd_same n4) (fr_x k3 upd_same n2) ?_
    refine ⟨⟨dx, f1, upd_same⟩, ⟨f2, xs, rfl, ?_, Paired.imp (fun v d q => ?_) hp⟩, hl, s3, s4, s5, ⟨[], ?_, .nil⟩, ?_, fun b hb => (nomatch hb), fun q hq => (nomatch hq), rfl, by decide⟩
    · rw [upd_ne q2, upd_ne s4, upd_ne q2, upd_ne s3, upd_ne q2]
      exact upd_same
    · exact tpl_P _ _ _ _ (fun b ys hb => k9 b _ (ne_of hb hx (by intro z; cases z)) hb) q
    · rw [upd_ne q3, upd_ne s5, upd_ne q3]
      exact upd_same
    · rw [upd_ne q4]
      exact upd_same

def s_len (F : Kin) : Sp := fun vs H Q _ => ∃ (o td pd C : Addr) (ds : List Deed) (pa : List (Addr × Nat)) (he : Addr) (ps : List Px), vs = [.ref o] ∧ F.fam C ∧ Dk H o td pd C ds pa he ps ∧ Q (.int ps.length) H
theorem sc_m_len : FnScope ["self"] ["self"] (defScope (meth 63 2)) := ⟨rfl, rfl, rfl, by decide +kernel, rfl, by decide +kernel, by decide +kernel⟩
theorem m_len {F : Kin} (hF : F.Ok K) (D : ∀ C, F.fam C → Mm K "__len__" "Canvas.__len__" (meth 63 2) C) (T : Fre mg)   : ∀ C, F.fam C → MU P w K mg base C8.CX0 1 "__len__" C (s_len F) := by
  intro C0 hC0
  refine mu_of (D C0 hC0) sc_m_len (fun _ _ _ _ _ _ us hl => match us, hl with | [_], _ => rfl) (fun vs H Q E h => ?_) (fun f cdv A outer s H vs Q E hr h => ?_)
  · obtain ⟨_, _, _, _, _, _, _, _, rfl, _⟩ := h
    rfl
  · obtain ⟨o, td, pd, C, ds, pa, he, ps, rfl, hC, hD, k⟩ := h
    refine ⟨_, (pss_one (ps_ret (pe_callB call_len_seq (by rfl) T.len PySem.boot_len (pa_cons (pe_fld (pv 0) rfl) pa_nil)))), ?_⟩
    have fam := hF.fam C hC
    obtain ⟨dx, fi, ho⟩ := hD.obj
    obtain ⟨a, xs, e, ha, hp⟩ := hD.here
    cases e
    refine ⟨_, rfl, o, C, dx, _, _, rfl, ho, fam.cl, fam.he, rfl, he, xs, rfl, .inl (SqL.of ha), ?_⟩
    rw [hp.length]
    exact k

def s_check_plain  : Sp := fun vs H Q _ => ∃ a b : V, vs = [a, b] ∧ Q .non H
theorem sc_m_check_plain : FnScope ["self", "found"] ["self", "found"] (defScope (meth 63 4)) := ⟨rfl, rfl, rfl, by decide +kernel, rfl, by decide +kernel, by decide +kernel⟩
theorem m_check_plain {F : Kin} (hF : F.Ok K) (D : ∀ C, F.pln C → Mm K "check_turned" "Canvas.check_turned" (meth 63 4) C) (T : Fre mg)   : ∀ C, F.pln C → MU P w K mg base C8.CX0 1 "check_turned" C (s_check_plain) := by
  intro C0 hC0
  refine mu_of (D C0 hC0) sc_m_check_plain (fun _ _ _ _ _ _ us hl => match us, hl with | [_, _], _ => rfl) (fun vs H Q E h => ?_) (fun f cdv A outer s H vs Q E hr h => ?_)
  · obtain ⟨_, _, rfl, _⟩ := h
    rfl
  · obtain ⟨a, b, rfl, k⟩ := h
    refine ⟨_, (pss_one ps_pass), ?_⟩
    exact k

def s_go_on (F : Kin) : Sp := fun vs H Q _ => ∃ (o td pd C : Addr) (ds : List Deed) (pa : List (Addr × Nat)) (he : Addr) (ps : List Px) (dv : V) (d : Deed) (fn : Addr) (qs : List Px), vs = [.ref o, dv, .ref fn] ∧ F.fam C ∧ Dk H o td pd C ds pa he ps ∧ pa.length ≤ 5 ∧ IsDd H dv d ∧ (∀ b, d = .walk b → ∃ n, Old H td pd b n) ∧ Pic H (.ref fn) qs ∧ qs.length ≤ 400 ∧ fn ≠ td ∧ fn ≠ pd ∧ ∀ H', Mv o td pd H H' → Dk H' o td pd C (ds ++ [d]) (pa ++ [(he, ps.length)]) fn qs → Q (.int qs.length) H'
theorem sc_m_go_on : FnScope ["self", "deed", "found"] ["self", "deed", "found"] (defScope (meth 63 6)) := ⟨rfl, rfl, rfl, by decide +kernel, rfl, by decide +kernel, by decide +kernel⟩
theorem m_go_on {F : Kin} (hF : F.Ok K) (D : ∀ C, F.fam C → Mm K "go_on" "Canvas.go_on" (meth 63 6) C) (T : Fre mg)   : ∀ C, F.fam C → MU P w K mg base C8.CX0 1 "go_on" C (s_go_on F) := by
  intro C0 hC0
  refine mu_of (D C0 hC0) sc_m_go_on (fun _ _ _ _ _ _ us hl => match us, hl with | [_, _, _], _ => rfl) (fun vs H Q E h => ?_) (fun f cdv A outer s H vs Q E hr h => ?_)
  · obtain ⟨_, _, _, _, _, _, _, _, _, _, _, _, rfl, _⟩ := h
    rfl
  · obtain ⟨o, td, pd, C, ds, pa, he, ps, dv, d, fn, qs, rfl, hC, hD, h5, hdv, hwk, hfn, hq, n1, n2, k⟩ := h
    refine ⟨_, (pss_cons (ps_expr (pe_bm PySem.F.plainAttrs_list PySem.F.slot_list_append PySem.F.type_list_append mt_append (pe_fld (pv 0) rfl) (pa_cons (pe_fld (pv 0) rfl) pa_nil))) (pss_cons (ps_expr (pe_bm PySem.F.plainAttrs_list PySem.F.slot_list_append PySem.F.type_list_append mt_append (pe_fld (pv 0) rfl) (pa_cons (pv 1) pa_nil))) (pss_cons (ps_fld (pv 0) (pv 2) rfl) (pss_one (ps_ret (pe_callB call_len_seq (by rfl) T.len PySem.boot_len (pa_cons (pv 2) pa_nil))))))), ?_⟩
    have fam := hF.fam C hC
    have hD' := hD
    obtain ⟨⟨dx, fi, ho⟩, here, few, ht, hp, tp, ⟨xs, htd, hdd⟩, past, walks, olds, len, lo⟩ := hD'
    have ot := hD.o_td
    have op := hD.o_pd
    have lxs : xs.length = ds.length := hdd.length
    refine ⟨_, rfl, o, C, dx, _, _, rfl, ho, fam.cl, fam.pd, rfl, .inl ⟨rfl, _, SqL.of past⟩, _, rfl, o, C, dx, _, _, rfl, ho, fam.cl, fam.he, rfl, pd, _, _, rfl, rfl, past, small_lt (by rw [List.length_map]; omega), ?_⟩
    have ho1 : upd H pd (.lst ((pa.map fun q => V.ref q.1) ++ [.ref he])) o = some (.ins C dx [("first_dots", .ref fi), ("here_dots", .ref he), ("told_deeds", .ref td), ("past_dots", .ref pd)]) := by rw [upd_ne op]; exact ho
    have htd1 : upd H pd (.lst ((pa.map fun q => V.ref q.1) ++ [.ref he])) td = some (.lst xs) := by rw [upd_ne tp]; exact htd
    refine ⟨_, rfl, o, C, dx, _, _, rfl, ho1, fam.cl, fam.td, rfl, .inl ⟨rfl, _, SqL.of htd1⟩, _, rfl, td, _, _, rfl, rfl, htd1, small_lt (by omega), ?_⟩
    refine ⟨_, rfl, _, rfl, o, C, dx, _, rfl, (by rw [upd_ne ot]; exact ho1), fam.cl, fam.he, by show 4 < 1000; decide, ?_⟩
    have mv : Mv o td pd H (upd (upd (upd H pd (.lst ((pa.map fun q => V.ref q.1) ++ [.ref he]))) td (.lst (xs ++ [dv]))) o (.ins C dx (putF "here_dots" (.ref fn) [("first_dots", .ref fi), ("here_dots", .ref he), ("told_deeds", .ref td), ("past_dots", .ref pd)]))) := fun b u b1 b2 b3 hb => by
      rw [upd_ne b1, upd_ne b2, upd_ne b3]
      exact hb
    have hfn2 := hD.lst mv tpl_P n1 n2 hfn
    obtain ⟨fa, fx, e, hfa, hfp⟩ := hfn2
    cases e
    refine ⟨_, rfl, fn, fx, rfl, .inl (SqL.of hfa), ?_⟩
    rw [hfp.length]
    refine k _ mv ⟨⟨dx, fi, upd_same⟩, ⟨fn, fx, rfl, hfa, hfp⟩, hq, n1, n2, tp, ⟨xs ++ [dv], ?_, ?_⟩, ?_, fun b hb => ?_, fun q hq => ?_, ?_, ?_⟩
    · rw [upd_ne (Ne.symm ot)]
      exact upd_same
    · exact Paired.more (Paired.imp (fun x d q => tpl_Dd _ _ x d (hD.tsm mv) q) hdd) (tpl_Dd _ _ _ _ (hD.tsm mv) hdv)
    · rw [upd_ne (Ne.symm op), upd_ne (Ne.symm tp), List.map_append]
      exact upd_same
    · rcases List.mem_append.mp hb with hb | hb
      · exact (walks b hb).imp fun n z => hD.old mv z
      · exact (hwk b (List.mem_singleton.mp hb).symm).imp fun n z => hD.old mv z
    · rcases List.mem_append.mp hq with hq | hq
      · exact hD.old mv (olds q hq)
      · obtain rfl := List.mem_singleton.mp hq
        refine hD.old mv ⟨?_, few, ht, hp⟩
        obtain ⟨a, ys, e, ha, hpy⟩ := here
        cases e
        exact ⟨ys, ha, hpy.length⟩
    · rw [List.length_append, List.length_append, len]
      rfl
    · rw [List.length_append]
      show pa.length + 1 ≤ 10
      omega

def s_turn (F : Kin) : Sp := fun vs H Q E => ∃ (o td pd C : Addr) (ds : List Deed) (pa : List (Addr × Nat)) (he : Addr) (ps : List Px) (v : V) (t : Tn), vs = [.ref o, v] ∧ F.pln C ∧ Dk H o td pd C ds pa he ps ∧ pa.length ≤ 5 ∧ IsTn H v t ∧ Good t ∧ Asc ps ∧ BdL 5000 ps ∧ Few t ps ∧ ∀ H' fn, Mv o td pd H H' → Dk H' o td pd C (ds ++ [.turn]) (pa ++ [(he, ps.length)]) fn (canon (ps.map (img t))) → Q (.int (canon (ps.map (img t))).length) H'
theorem sc_m_turn : FnScope ["self", "turn", "found"] ["self", "turn"] (defScope (meth 63 9)) := ⟨rfl, rfl, rfl, by decide +kernel, rfl, by decide +kernel, by decide +kernel⟩
theorem m_turn {F : Kin} (hF : F.Ok K) (D : ∀ C, F.pln C → Mm K "turn" "Canvas.turn" (meth 63 9) C) (T : Fre mg) (h_turned_picture : Cal P w K mg base 6 "turned_picture" s_turned_picture []) (h_check : ∀ C, F.pln C → MU P w K mg base C8.CX0 1 "check_turned" C s_check_plain) (h_go : ∀ C, F.fam C → MU P w K mg base C8.CX0 1 "go_on" C (s_go_on F)) : ∀ C, F.pln C → MU P w K mg base C8.CX0 7 "turn" C (s_turn F) := by
  intro C0 hC0
  refine mu_of (D C0 hC0) sc_m_turn (fun _ _ _ _ _ _ us hl => match us, hl with | [_, _], _ => rfl) (fun vs H Q E h => ?_) (fun f cdv A outer s H vs Q E hr h => ?_)
  · obtain ⟨_, _, _, _, _, _, _, _, _, _, rfl, _⟩ := h
    rfl
  · obtain ⟨o, td, pd, C, ds, pa, he, ps, v, t, rfl, hC, hD, h5, hv, g, hs, hb, few, k⟩ := h
    refine ⟨_, (pss_cons (ps_set (i := 2) sc_m_turn.nd rfl (Or.inl rfl) (pe_c h_turned_picture hr (by decide) (by rfl) (pa_cons (pv 1) (pa_cons (pe_fld (pv 0) rfl) pa_nil)))) (pss_cons (ps_expr (pe_mu (CX := C8.CX0) (k := 1) (ES := fun _ => C8.E0) (pv 0) (hr.mono (by decide)) (fun _ => passN) (pa_cons (pv 2) pa_nil))) (pss_one (ps_ret (pe_mu (CX := C8.CX0) (k := 1) (ES := fun _ => C8.E0) (pv 0) (hr.mono (by decide)) (fun _ => passN) (pa_cons (pe_tup (pa_cons pe_str (pa_cons (pv 1) pa_nil))) (pa_cons (pv 2) pa_nil))))))), ?_⟩
    have hCf := hF.pln C hC
    have fam := hF.fam C hCf
    obtain ⟨dx, fi, ho⟩ := hD.obj
    refine ⟨_, rfl, _, rfl, o, C, dx, _, _, rfl, ho, fam.cl, fam.he, rfl, v, .ref he, t, ps, rfl, hv, g, hD.here, hs, hD.few, hb, few, fun H1 fn e1 nf h1 => ?_⟩
    refine ⟨_, rfl, o, C, dx, _, _, rfl, e1 _ _ ho, rfl, h_check C hC, _, rfl, _, _, rfl, ?_⟩
    refine ⟨_, rfl, o, C, dx, _, _, rfl, e1 _ _ ho, rfl, h_go C hCf, _, rfl, small_le (by decide : 2 ≤ 1000), fun q nq => ⟨_, rfl, ?_⟩⟩
    have e2 := e1.trans (sm_new (o := .tup [.str "turn", v]) nq)
    refine ⟨o, td, pd, C, ds, pa, he, ps, _, .turn, fn, _, rfl, hCf, hD.same e2, h5, ⟨q, v, rfl, upd_same⟩, fun b hb => (nomatch hb), Pic.same (sm_new nq) h1, ?_, ?_, ?_, fun H3 m3 d3 => ?_⟩
    · have := canon_le (ps.map (img t))
      rw [List.length_map] at this
      have := hD.few
      omega
    · exact Ne.symm (ne_of_none (hD.told.choose_spec.1) nf)
    · exact Ne.symm (ne_of_none hD.past nf)
    · exact k H3 fn ((Mv.of e2).trans m3) d3

def s_shear (F : Kin) : Sp := fun vs H Q _ => ∃ (o td pd C : Addr) (ds : List Deed) (pa : List (Addr × Nat)) (he : Addr) (ps : List Px) (v : V) (t : Tn) (b : Bool) (n : Nat), vs = [.ref o, v, .str (ordS b)] ∧ F.fam C ∧ Dk H o td pd C ds pa he ps ∧ pa.length ≤ 5 ∧ IsTn H v t ∧ Good t ∧ Asc ps ∧ BdL n ps ∧ n ≤ 4000 ∧ ∀ H' fn, Mv o td pd H H' → Dk H' o td pd C (ds ++ [.shear]) (pa ++ [(he, ps.length)]) fn (shearsT t b ps) → Q (.int (shearsT t b ps).length) H'
theorem sc_m_shear : FnScope ["self", "turn", "order"] ["self", "turn", "order"] (defScope (meth 63 10)) := ⟨rfl, rfl, rfl, by decide +kernel, rfl, by decide +kernel, by decide +kernel⟩
theorem m_shear {F : Kin} (hF : F.Ok K) (D : ∀ C, F.fam C → Mm K "shear" "Canvas.shear" (meth 63 10) C) (T : Fre mg) (h_sheared_picture : Cal P w K mg base 7 "sheared_picture" s_sheared_picture []) (h_go : ∀ C, F.fam C → MU P w K mg base C8.CX0 1 "go_on" C (s_go_on F)) : ∀ C, F.fam C → MU P w K mg base C8.CX0 8 "shear" C (s_shear F) := by
  intro C0 hC0
  refine mu_of (D C0 hC0) sc_m_shear (fun _ _ _ _ _ _ us hl => match us, hl with | [_, _, _], _ => rfl) (fun vs H Q E h => ?_) (fun f cdv A outer s H vs Q E hr h => ?_)
  · obtain ⟨_, _, _, _, _, _, _, _, _, _, _, _, rfl, _⟩ := h
    rfl
  · obtain ⟨o, td, pd, C, ds, pa, he, ps, v, t, b, n, rfl, hC, hD, h5, hv, g, hs, hb, hn, k⟩ := h
    refine ⟨_, (pss_one (ps_ret (pe_mu (CX := C8.CX0) (k := 1) (ES := fun _ => C8.E0) (pv 0) (hr.mono (by decide)) (fun _ => passN) (pa_cons (pe_tup (pa_cons pe_str (pa_cons (pv 1) (pa_cons (pv 2) pa_nil)))) (pa_cons (pe_c h_sheared_picture hr (by decide) (by rfl) (pa_cons (pv 1) (pa_cons (pv 2) (pa_cons (pe_fld (pv 0) rfl) pa_nil)))) pa_nil))))), ?_⟩
    have fam := hF.fam C hC
    obtain ⟨dx, fi, ho⟩ := hD.obj
    refine ⟨_, rfl, o, C, dx, _, _, rfl, ho, rfl, h_go C hC, _, rfl, _, rfl, small_le (by decide : 3 ≤ 1000), fun q nq => ?_⟩
    have e1 := sm_new (o := .tup [.str "shear", v, .str (ordS b)]) nq
    refine ⟨_, rfl, _, rfl, _, rfl, o, C, dx, _, _, rfl, e1 _ _ ho, fam.cl, fam.he, rfl, v, .ref he, t, b, ps, n, rfl, hv.same e1, g, Pic.same e1 hD.here, hs, hD.few, hb, hn, fun H1 fn e2 nf h1 => ?_⟩
    have e12 := e1.trans e2
    refine ⟨o, td, pd, C, ds, pa, he, ps, _, .shear, fn, _, rfl, hC, hD.same e12, h5, ⟨q, v, _, rfl, e2 _ _ upd_same⟩, fun b hb => (nomatch hb), h1, ?_, ?_, ?_, fun H3 m3 d3 => ?_⟩
    · have := canon_le (ps.map (shearT t b))
      rw [List.length_map] at this
      have := hD.few
      unfold shearsT
      omega
    · exact Ne.symm (ne_of_none (e1 _ _ hD.told.choose_spec.1) nf)
    · exact Ne.symm (ne_of_none (e1 _ _ hD.past) nf)
    · exact k H3 fn ((Mv.of e12).trans m3) d3

def s_walk (F : Kin) : Sp := fun vs H Q _ => ∃ (o td pd C : Addr) (ds : List Deed) (pa : List (Addr × Nat)) (he : Addr) (ps : List Px) (v : V) (ts : List Tn) (n : Nat), vs = [.ref o, v] ∧ F.fam C ∧ Dk H o td pd C ds pa he ps ∧ pa.length ≤ 5 ∧ Way H v ts ∧ GoodW ts ∧ ts.length ≤ 120 ∧ Asc ps ∧ BdL n ps ∧ n ≤ 4000 ∧ ∀ H' fn b, Mv o td pd H H' → Dk H' o td pd C (ds ++ [.walk b]) (pa ++ [(he, ps.length)]) fn (walksT ts ps) → Q (.int (walksT ts ps).length) H'
theorem sc_m_walk : FnScope ["self", "way", "found"] ["self", "way"] (defScope (meth 63 11)) := ⟨rfl, rfl, rfl, by decide +kernel, rfl, by decide +kernel, by decide +kernel⟩
theorem m_walk {F : Kin} (hF : F.Ok K) (D : ∀ C, F.fam C → Mm K "walk" "Canvas.walk" (meth 63 11) C) (T : Fre mg) (h_walked_picture : Cal P w K mg base 7 "walked_picture" s_walked_picture []) (h_go : ∀ C, F.fam C → MU P w K mg base C8.CX0 1 "go_on" C (s_go_on F)) : ∀ C, F.fam C → MU P w K mg base C8.CX0 8 "walk" C (s_walk F) := by
  intro C0 hC0
  refine mu_of (D C0 hC0) sc_m_walk (fun _ _ _ _ _ _ us hl => match us, hl with | [_, _], _ => rfl) (fun vs H Q E h => ?_) (fun f cdv A outer s H vs Q E hr h => ?_)
  · obtain ⟨_, _, _, _, _, _, _, _, _, _, _, rfl, _⟩ := h
    rfl
  · obtain ⟨o, td, pd, C, ds, pa, he, ps, v, ts, n, rfl, hC, hD, h5, ⟨wa, wx, rfl, hwa, hwp⟩, gw, hlt, hs, hb, hn, k⟩ := h
    refine ⟨_, (pss_cons (ps_set (i := 2) sc_m_walk.nd rfl (Or.inl rfl) (pe_c h_walked_picture hr (by decide) (by rfl) (pa_cons (pv 1) (pa_cons (pe_fld (pv 0) rfl) pa_nil)))) (pss_one (ps_ret (pe_mu (CX := C8.CX0) (k := 1) (ES := fun _ => C8.E0) (pv 0) (hr.mono (by decide)) (fun _ => passN) (pa_cons (pe_tup (pa_cons pe_str (pa_cons (pe_callTy call_list_of (by rfl) T.lst (by decide +kernel) (pa_cons (pv 1) pa_nil)) pa_nil))) (pa_cons (pv 2) pa_nil)))))), ?_⟩
    have fam := hF.fam C hC
    obtain ⟨dx, fi, ho⟩ := hD.obj
    refine ⟨_, rfl, _, rfl, o, C, dx, _, _, rfl, ho, fam.cl, fam.he, rfl, _, .ref he, ts, ps, n, rfl, ⟨wa, wx, rfl, hwa, hwp⟩, gw, hlt, hD.here, hs, hD.few, hb, hn, fun H1 fn e1 nf h1 => ?_⟩
    refine ⟨_, rfl, o, C, dx, _, _, rfl, e1 _ _ ho, rfl, h_go C hC, _, rfl, wa, wx, rfl, .inl (SqL.of (e1 _ _ hwa)), fun b nb => ⟨small_le (by decide : 2 ≤ 1000), fun q nq => ⟨_, rfl, ?_⟩⟩⟩
    have e2 := sm_new (o := .lst wx) nb
    have e3 := sm_new (o := .tup [.str "walk", .ref b]) nq
    have e12 := e1.trans e2
    have e123 := e12.trans e3
    have hD3 := hD.same e123
    have htd := hD.told.choose_spec.1
    refine ⟨o, td, pd, C, ds, pa, he, ps, _, .walk b, fn, _, rfl, hC, hD3, h5, ⟨q, rfl, upd_same⟩, fun b' hb' => ?_, Pic.same (e2.trans e3) h1, ?_, ?_, ?_, fun H3 m3 d3 => ?_⟩
    · cases hb'
      refine ⟨ts.length, ⟨wx, e3 _ _ upd_same, hwp.length⟩, by omega, ?_, ?_⟩
      · exact Ne.symm (ne_of_none (e1 _ _ htd) nb)
      · exact Ne.symm (ne_of_none (e1 _ _ hD.past) nb)
    · have := canon_le (ps.map (walkT ts))
      rw [List.length_map] at this
      have := hD.few
      unfold walksT
      omega
    · exact Ne.symm (ne_of_none htd nf)
    · exact Ne.symm (ne_of_none hD.past nf)
    · exact k H3 fn b ((Mv.of e123).trans m3) d3

def s_pixels (F : Kin) : Sp := fun vs H Q _ => ∃ (o td pd C : Addr) (ds : List Deed) (pa : List (Addr × Nat)) (he : Addr) (ps : List Px), vs = [.ref o] ∧ F.fam C ∧ Dk H o td pd C ds pa he ps ∧ ∀ H' p, Same H H' → H p = none → Pic H' (.ref p) ps → Q (.ref p) H'
theorem sc_m_pixels : FnScope ["self"] ["self"] (defScope (meth 63 15)) := ⟨rfl, rfl, rfl, by decide +kernel, rfl, by decide +kernel, by decide +kernel⟩
theorem m_pixels {F : Kin} (hF : F.Ok K) (D : ∀ C, F.fam C → Pp K "pixels" "Canvas.pixels" (meth 63 15) C) (T : Fre mg)   : ∀ C, F.fam C → PU P w K mg base C8.CX0 1 "pixels" C (s_pixels F) := by
  intro C0 hC0
  refine pu_of (D C0 hC0) sc_m_pixels (fun _ _ _ _ _ _ us hl => match us, hl with | [_], _ => rfl) (fun vs H Q E h => ?_) (fun f cdv A outer s H vs Q E hr h => ?_)
  · obtain ⟨_, _, _, _, _, _, _, _, rfl, _⟩ := h
    rfl
  · obtain ⟨o, td, pd, C, ds, pa, he, ps, rfl, hC, hD, k⟩ := h
    refine ⟨_, (pss_one (ps_ret (pe_callTy call_list_of (by rfl) T.lst (by decide +kernel) (pa_cons (pe_fld (pv 0) rfl) pa_nil)))), ?_⟩
    have fam := hF.fam C hC
    obtain ⟨dx, fi, ho⟩ := hD.obj
    obtain ⟨a, xs, e, ha, hp⟩ := hD.here
    cases e
    refine ⟨_, rfl, o, C, dx, _, _, rfl, ho, fam.cl, fam.he, rfl, he, xs, rfl, .inl (SqL.of ha), fun p np => ?_⟩
    exact k _ p (sm_new np) np ⟨p, xs, rfl, upd_same, Paired.imp (fun x d q => IsP.same (sm_new np) q) hp⟩

theorem m_pixelsQ {F : Kin} (hF : F.Ok K) (D : ∀ C, F.fam C → Pp K "pixels" "Canvas.pixels" (meth 63 15) C) (T : Fre mg)   : ∀ C, F.fam C → PQ P w K mg base C8.CX0 1 "pixels" C (s_pixels F) := by
  intro C0 hC0
  refine pq_of (D C0 hC0) sc_m_pixels (fun _ _ _ _ _ _ us hl => match us, hl with | [_], _ => rfl) (fun vs H Q E h => ?_) (fun f cdv A outer s H vs Q E p hr h => ?_)
  · obtain ⟨_, _, _, _, _, _, _, _, rfl, _⟩ := h
    rfl
  · obtain ⟨o, td, pd, C, ds, pa, he, ps, rfl, hC, hD, k⟩ := h
    refine ⟨_, (pss_one (ps_ret (pe_callTy call_list_of (by rfl) T.lst (by decide +kernel) (pa_cons (pe_fld (pv 0) rfl) pa_nil)))), ?_⟩
    have fam := hF.fam C hC
    obtain ⟨dx, fi, ho⟩ := hD.obj
    obtain ⟨a, xs, e, ha, hp⟩ := hD.here
    cases e
    refine ⟨_, rfl, o, C, dx, _, _, rfl, ho, fam.cl, fam.he, rfl, he, xs, rfl, .inl (SqL.of ha), fun p np => ?_⟩
    exact k _ p (sm_new np) np ⟨p, xs, rfl, upd_same, Paired.imp (fun x d q => IsP.same (sm_new np) q) hp⟩

end
end TP


set_option Elab.async false
set_option linter.all false
set_option maxRecDepth 100000
set_option maxHeartbeats 4000000
namespace TP
open PySem PySem.Spec PyProof.Rows L2
open C8 (Cal pe_c pe_gc)
section
variable {P : Program} {w : World} {K : PySem.W.Frag} {mg : Str → Option Value} {base : Heap}


theorem passE {X : Cx} {E : XK} (tk : Takes X (fun cls d _ H => E cls d H)) (σ : L2.St) : PassesAt (L2.CX X.prog X.w) X σ E := fun pins H s e s' I c => passes_call tk (fun _ _ _ _ z => z) pins σ H s e s' I c
/-- the sum of what turns lost -/
def lostS (L : List (Deed × Nat × Nat)) : Int := L.foldl (fun (s : Int) q => match q.1 with | .turn => s + (q.2.1 : Int) - (q.2.2 : Int) | _ => s) 0
def deedS : Deed → String
  | .turn => "turn"
  | .shear => "shear"
  | .walk _ => "walk"
theorem Deed.item0 {H : Hp} {v : V} {d : Deed} (h : IsDd H v d) : ∃ a x xs, v = .ref a ∧ H a = some (.tup (.str (PySem.Str.ofString (deedS d)) :: x :: xs)) := match d, h with
  | .turn, ⟨a, x, h1, h2⟩ => ⟨a, x, [], h1, h2⟩
  | .shear, ⟨a, x, y, h1, h2⟩ => ⟨a, x, [y], h1, h2⟩
  | .walk b, ⟨a, h1, h2⟩ => ⟨a, .ref b, [], h1, h2⟩
theorem Old.lst {H : Hp} {td pd a : Addr} {n : Nat} (h : Old H td pd a n) : ∃ xs, H a = some (.lst xs) ∧ xs.length = n := h.at_

def s_check_keep (F : Kin) (L : Addr) : Sp := fun vs H Q E => ∃ (o td pd C : Addr) (ds : List Deed) (pa : List (Addr × Nat)) (he : Addr) (ps : List Px) (fn : Addr) (qs : List Px), vs = [.ref o, .ref fn] ∧ F.kpg C ∧ Dk H o td pd C ds pa he ps ∧ Pic H (.ref fn) qs ∧ (ps.length ≤ qs.length → Q .non H) ∧ (qs.length < ps.length → ∀ d H', H d = none → Same H H' → H' d = some (.xd [("number", .int ((ps.length : Int) - (qs.length : Int)))]) → E (.ref L) (some d) H')
theorem sc_m_check_keep : FnScope ["self", "found"] ["self", "found"] (defScope (meth 64 1)) := ⟨rfl, rfl, rfl, by decide +kernel, rfl, by decide +kernel, by decide +kernel⟩
theorem m_check_keep {F : Kin} (hF : F.Ok K) (D : ∀ C, F.kpg C → Mm K "check_turned" "KeepingCanvas.check_turned" (meth 64 1) C) (T : Fre mg)  {L : Addr} (hL : LostOk P w K mg base L) : ∀ C, F.kpg C → MU P w K mg base (L2.CX P w) 3 "check_turned" C (s_check_keep F L) := by
  intro C0 hC0
  refine mu_ofX (D C0 hC0) sc_m_check_keep (fun _ _ _ _ _ _ us hl => match us, hl with | [_, _], _ => rfl) (fun vs H Q E h => ?_) (fun f cdv A outer s H vs Q E hr h => ?_)
  · obtain ⟨_, _, _, _, _, _, _, _, _, _, rfl, _⟩ := h
    rfl
  · obtain ⟨o, td, pd, C, ds, pa, he, ps, fn, qs, rfl, hC, hD, ⟨fa, fx, e, hfa, hfp⟩, k, kE⟩ := h
    refine ⟨_, (pss_one (ps_if (pt_cmpR op_lt (pe_callB call_len_seq (by rfl) T.len PySem.boot_len (pa_cons (pv 1) pa_nil)) (pe_callB call_len_seq (by rfl) T.len PySem.boot_len (pa_cons (pe_fld (pv 0) rfl) pa_nil)) (nomark _)) (pss_one (ps_lost hL rfl (takes_of rfl rfl rfl rfl) hr (by decide) (by rfl) (pa_cons (pe_op op_sub (pe_callB call_len_seq (by rfl) T.len PySem.boot_len (pa_cons (pe_fld (pv 0) rfl) pa_nil)) (pe_callB call_len_seq (by rfl) T.len PySem.boot_len (pa_cons (pv 1) pa_nil))) pa_nil))) pss_nil)), ?_⟩
    cases e
    have fam := hF.fam C (hF.kpg C hC)
    obtain ⟨dx, fi, ho⟩ := hD.obj
    obtain ⟨a, xs, e, ha, hp⟩ := hD.here
    cases e
    have l1 : xs.length = ps.length := hp.length
    have l2 : fx.length = qs.length := hfp.length
    refine ⟨_, rfl, fn, fx, rfl, .inl (SqL.of hfa), _, rfl, o, C, dx, _, _, rfl, ho, fam.cl, fam.he, rfl, he, xs, rfl, .inl (SqL.of ha), _, _, rfl, rfl, _, rfl, ?_⟩
    rw [l1, l2]
    by_cases lt : qs.length < ps.length
    · refine ifD (by omega) ?_
      refine ⟨_, rfl, o, C, dx, _, _, rfl, ho, fam.cl, fam.he, rfl, he, xs, rfl, .inl (SqL.of ha), _, rfl, fn, fx, rfl, .inl (SqL.of hfa), _, _, rfl, rfl, ?_⟩
      rw [l1, l2]
      exact lost_made fun d H' hd e hx => kE lt d H' hd e hx
    · refine ifN (by omega) ?_
      exact k (by omega)

def s_turnK (F : Kin) (L : Addr) : Sp := fun vs H Q E => ∃ (o td pd C : Addr) (ds : List Deed) (pa : List (Addr × Nat)) (he : Addr) (ps : List Px) (v : V) (t : Tn), vs = [.ref o, v] ∧ F.kpg C ∧ Dk H o td pd C ds pa he ps ∧ pa.length ≤ 5 ∧ IsTn H v t ∧ Good t ∧ Asc ps ∧ BdL 5000 ps ∧ Few t ps ∧ (ps.length ≤ (canon (ps.map (img t))).length → ∀ H' fn, Mv o td pd H H' → Dk H' o td pd C (ds ++ [.turn]) (pa ++ [(he, ps.length)]) fn (canon (ps.map (img t))) → Q (.int (canon (ps.map (img t))).length) H') ∧ ((canon (ps.map (img t))).length < ps.length → ∀ d H', H d = none → Same H H' → H' d = some (.xd [("number", .int ((ps.length : Int) - ((canon (ps.map (img t))).length : Int)))]) → E (.ref L) (some d) H')
theorem sc_m_turnK : FnScope ["self", "turn", "found"] ["self", "turn"] (defScope (meth 63 9)) := ⟨rfl, rfl, rfl, by decide +kernel, rfl, by decide +kernel, by decide +kernel⟩
theorem m_turnK {F : Kin} (hF : F.Ok K) (D : ∀ C, F.kpg C → Mm K "turn" "Canvas.turn" (meth 63 9) C) (T : Fre mg) (h_turned_picture : Cal P w K mg base 6 "turned_picture" s_turned_picture []) {L : Addr} (h_check : ∀ C, F.kpg C → MU P w K mg base (L2.CX P w) 3 "check_turned" C (s_check_keep F L)) (h_go : ∀ C, F.fam C → MU P w K mg base C8.CX0 1 "go_on" C (s_go_on F)) : ∀ C, F.kpg C → MU P w K mg base (L2.CX P w) 7 "turn" C (s_turnK F L) := by
  intro C0 hC0
  refine mu_ofX (D C0 hC0) sc_m_turnK (fun _ _ _ _ _ _ us hl => match us, hl with | [_, _], _ => rfl) (fun vs H Q E h => ?_) (fun f cdv A outer s H vs Q E hr h => ?_)
  · obtain ⟨_, _, _, _, _, _, _, _, _, _, rfl, _⟩ := h
    rfl
  · obtain ⟨o, td, pd, C, ds, pa, he, ps, v, t, rfl, hC, hD, h5, hv, g, hs, hb, few, k, kE⟩ := h
    refine ⟨_, (pss_cons (ps_set (i := 2) sc_m_turnK.nd rfl (Or.inl rfl) (pe_c h_turned_picture hr (by decide) (by rfl) (pa_cons (pv 1) (pa_cons (pe_fld (pv 0) rfl) pa_nil)))) (pss_cons (ps_expr (pe_mu (CX := L2.CX P w) (k := 3) (ES := fun _ => E) (pv 0) (hr.mono (by decide)) (fun σ => passE (takes_of rfl rfl rfl rfl) σ) (pa_cons (pv 2) pa_nil))) (pss_one (ps_ret (pe_mu (CX := C8.CX0) (k := 1) (ES := fun _ => C8.E0) (pv 0) (hr.mono (by decide)) (fun _ => passN) (pa_cons (pe_tup (pa_cons pe_str (pa_cons (pv 1) pa_nil))) (pa_cons (pv 2) pa_nil))))))), ?_⟩
    have hCf := hF.kpg C hC
    have fam := hF.fam C hCf
    obtain ⟨dx, fi, ho⟩ := hD.obj
    refine ⟨_, rfl, _, rfl, o, C, dx, _, _, rfl, ho, fam.cl, fam.he, rfl, v, .ref he, t, ps, rfl, hv, g, hD.here, hs, hD.few, hb, few, fun H1 fn e1 nf h1 => ?_⟩
    refine ⟨_, rfl, o, C, dx, _, _, rfl, e1 _ _ ho, rfl, h_check C hC, _, rfl, o, td, pd, C, ds, pa, he, ps, fn, _, rfl, hC, hD.same e1, h1, fun le => ?_, fun lt d H' hd e hx => kE lt d H' (free_of e1 hd) (e1.trans e) hx⟩
    refine ⟨_, rfl, o, C, dx, _, _, rfl, e1 _ _ ho, rfl, h_go C hCf, _, rfl, small_le (by decide : 2 ≤ 1000), fun q nq => ⟨_, rfl, ?_⟩⟩
    have e2 := e1.trans (sm_new (o := .tup [.str "turn", v]) nq)
    refine ⟨o, td, pd, C, ds, pa, he, ps, _, .turn, fn, _, rfl, hCf, hD.same e2, h5, ⟨q, v, rfl, upd_same⟩, fun b hb => (nomatch hb), Pic.same (sm_new nq) h1, ?_, ?_, ?_, fun H3 m3 d3 => ?_⟩
    · have := canon_le (ps.map (img t))
      rw [List.length_map] at this
      have := hD.few
      omega
    · exact Ne.symm (ne_of_none (hD.told.choose_spec.1) nf)
    · exact Ne.symm (ne_of_none hD.past nf)
    · exact k le H3 fn ((Mv.of e2).trans m3) d3

def s_deeds (F : Kin) : Sp := fun vs H Q _ => ∃ (o td pd C : Addr) (ds : List Deed) (pa : List (Addr × Nat)) (he : Addr) (ps : List Px), vs = [.ref o] ∧ F.fam C ∧ Dk H o td pd C ds pa he ps ∧ ∀ H' p xs, Same H H' → H' p = some (.lst xs) → xs.length = ds.length → Q (.ref p) H'
theorem sc_m_deeds : FnScope ["self", "found", "deed"] ["self"] (defScope (meth 63 16)) := ⟨rfl, rfl, rfl, by decide +kernel, rfl, by decide +kernel, by decide +kernel⟩
theorem m_deeds {F : Kin} (hF : F.Ok K) (D : ∀ C, F.fam C → Pp K "deeds" "Canvas.deeds" (meth 63 16) C) (T : Fre mg)   : ∀ C, F.fam C → PU P w K mg base C8.CX0 1 "deeds" C (s_deeds F) := by
  intro C0 hC0
  refine pu_of (D C0 hC0) sc_m_deeds (fun _ _ _ _ _ _ us hl => match us, hl with | [_], _ => rfl) (fun vs H Q E h => ?_) (fun f cdv A outer s H vs Q E hr h => ?_)
  · obtain ⟨_, _, _, _, _, _, _, _, rfl, _⟩ := h
    rfl
  · obtain ⟨o, td, pd, C, ds, pa, he, ps, rfl, hC, hD, k⟩ := h
    refine ⟨_, (pss_cons (ps_set (i := 1) sc_m_deeds.nd rfl (Or.inl rfl) (pe_lst pa_nil)) (pss_cons (ps_for PassesOwn.never rfl (pi_list (pe_fld (pv 0) rfl)) (pg_name (i := 2) sc_m_deeds.nd rfl (Or.inl rfl)) (pss_one (ps_expr (pe_bm PySem.F.plainAttrs_list PySem.F.slot_list_append PySem.F.type_list_append mt_append (pv 1) (pa_cons (pe_ifExp (pt_cmpR op_eq (pe_ix (r := rIxT K) ix_tup (pv 2) pe_int (fun _ _ => rfl)) pe_str (nomark _)) (pe_tup (pa_cons pe_str (pa_cons (pe_callTy call_list_of (by rfl) T.lst (by decide +kernel) (pa_cons (pe_ix (r := rIxT K) ix_tup (pv 2) pe_int (fun _ _ => rfl)) pa_nil)) pa_nil))) (pv 2)) pa_nil))))) (pss_one (ps_ret (pv 1))))), ?_⟩
    have fam := hF.fam C hC
    have hD' := hD
    obtain ⟨⟨dx, fi, ho⟩, here, few, ht, hp, tp, ⟨xs, htd, hdd⟩, past, walks, olds, len, lo⟩ := hD'
    refine ⟨Nat.zero_le _, fun f1 n1 => ?_⟩
    have e1 := sm_new (o := .lst []) n1
    have lx : xs.length = ds.length := hdd.length
    refine ⟨_, rfl, o, C, dx, _, _, rfl, e1 _ _ ho, fam.cl, fam.td, rfl, td, rfl, ⟨_, SqL.of (e1 _ _ htd)⟩, for_list (xs := xs) (fun i σ H' => ∃ v, σ = [some (.ref o), some (.ref f1), v] ∧ Same H H' ∧ ∃ acc, H' f1 = some (.lst acc) ∧ acc.length = i) ⟨none, rfl, e1, [], upd_same, rfl⟩ (fun i σ H' _ ⟨_, _, e, _⟩ => SqL.of (e _ _ htd)) ?_ ?_⟩
    · rintro i x σ H1 hx ⟨v, rfl, e2, acc, hacc, hla⟩
      have hi : i < xs.length := (List.getElem?_eq_some_iff.mp hx).1
      obtain ⟨d, hd, hdx⟩ := Paired.at hdd hx
      have hdx1 := tpl_Dd _ _ _ _ (sm_t e2) hdx
      obtain ⟨a, y, ys, rfl, ha⟩ := Deed.item0 (d := d) hdx1
      refine ⟨_, rfl, .inl ⟨rfl, _, SqL.of hacc⟩, ?_⟩
      refine ⟨_, rfl, a, _, 0, .str (PySem.Str.ofString (deedS d)), rfl, rfl, SqT.of ha, atI_nat (j := 0) rfl, by cases d <;> rfl, _, rfl, ?_⟩
      have stay : ∀ H2 (u : V), Same H1 H2 → ∃ l xs_1 y_1, V.ref f1 = .ref l ∧ [u] = [y_1] ∧ H2 l = some (.lst xs_1) ∧ xs_1.length < sizeLine ∧ (∃ v, ([some (.ref o), some (.ref f1), some (V.ref a)] : L2.St) = [some (.ref o), some (.ref f1), v] ∧ Same H (upd H2 l (.lst (xs_1 ++ [y_1]))) ∧ ∃ acc, upd H2 l (.lst (xs_1 ++ [y_1])) f1 = some (.lst acc) ∧ acc.length = i + 1) := fun H2 u e3 =>
        ⟨f1, acc, u, rfl, rfl, e3 _ _ hacc, small_lt (by omega), _, rfl, sm_mut (e2.trans e3) n1, _, upd_same, by rw [List.length_append, hla]; rfl⟩
      cases d with
      | turn => exact ifN (by decide) ⟨_, rfl, stay H1 _ (Same.refl _)⟩
      | shear => exact ifN (by decide) ⟨_, rfl, stay H1 _ (Same.refl _)⟩
      | walk b =>
        refine ifD (by rfl) ?_
        obtain ⟨a', e', hwa⟩ := hdx1
        cases e'
        obtain ⟨n, old⟩ := walks b (List.mem_of_getElem? hd)
        obtain ⟨zs, hz, hzn⟩ := old.lst
        refine ⟨_, rfl, a, _, 1, _, rfl, rfl, SqT.of hwa, rfl, b, zs, rfl, .inl (SqL.of (e2 _ _ hz)), fun l nl => ⟨small_le (by decide : 2 ≤ 1000), fun q nq => ?_⟩⟩
        exact stay _ _ ((sm_new nl).trans (sm_new nq))
    · rintro σ H1 ⟨v, rfl, e2, acc, hacc, hla⟩
      exact ⟨_, rfl, k H1 f1 acc e2 hacc (by omega)⟩

def s_lostn (F : Kin) : Sp := fun vs H Q _ => ∃ (o td pd C : Addr) (ds : List Deed) (pa : List (Addr × Nat)) (he : Addr) (ps : List Px), vs = [.ref o] ∧ F.fam C ∧ Dk H o td pd C ds pa he ps ∧ 1 ≤ pa.length ∧ ∀ H', Same H H' → Q (.int (lostS (ds.zip ((pa.map (·.2)).zip ((pa.map (·.2)).drop 1 ++ [ps.length]))))) H'
theorem sc_m_lostn : FnScope ["self", "deed", "before", "behind", "found", "later"] ["self"] (defScope (meth 65 2)) := ⟨rfl, rfl, rfl, by decide +kernel, rfl, by decide +kernel, by decide +kernel⟩
theorem m_lostn {F : Kin} (hF : F.Ok K) (D : ∀ C, F.cnt C → Mm K "lost_number" "CountingCanvas.lost_number" (meth 65 2) C) (T : Fre mg)   : ∀ C, F.cnt C → MU P w K mg base C8.CX0 1 "lost_number" C (s_lostn F) := by
  intro C0 hC0
  refine mu_of (D C0 hC0) sc_m_lostn (fun _ _ _ _ _ _ us hl => match us, hl with | [_], _ => rfl) (fun vs H Q E h => ?_) (fun f cdv A outer s H vs Q E hr h => ?_)
  · obtain ⟨_, _, _, _, _, _, _, _, rfl, _⟩ := h
    rfl
  · obtain ⟨o, td, pd, C, ds, pa, he, ps, rfl, hC, hD, h1, k⟩ := h
    refine ⟨_, (pss_cons (ps_par (i := 4) (j := 5) (by rfl) sc_m_lostn.nd rfl rfl (by decide) rfl rfl (pa_cons pe_int (pa_cons (pe_lst (StX.pa_star (pe_slice sl_list (pe_fld (pv 0) rfl) (po_some pe_int) po_none) (pa_cons (pe_fld (pv 0) rfl) pa_nil))) pa_nil)) (by rfl)) (pss_cons (ps_for PassesOwn.never rfl (pi_zip3 (by rfl) T.zip (pa_cons (pe_fld (pv 0) rfl) (pa_cons (pe_fld (pv 0) rfl) (pa_cons (pv 5) pa_nil)))) (pg_tup (by rfl) (pgs_cons (pg_name (i := 1) sc_m_lostn.nd rfl (Or.inl rfl)) (pgs_cons (pg_name (i := 2) sc_m_lostn.nd rfl (Or.inl rfl)) (pgs_cons (pg_name (i := 3) sc_m_lostn.nd rfl (Or.inl rfl)) pgs_nil)))) (pss_one (ps_if (pt_cmpR op_eq (pe_ix (r := rIxT K) ix_tup (pv 1) pe_int (fun _ _ => rfl)) pe_str (nomark _)) (pss_one (ps_set (i := 4) sc_m_lostn.nd rfl (Or.inl rfl) (pe_op op_sub (pe_op op_add (pv 4) (pe_callB call_len_seq (by rfl) T.len PySem.boot_len (pa_cons (pv 2) pa_nil))) (pe_callB call_len_seq (by rfl) T.len PySem.boot_len (pa_cons (pv 3) pa_nil))))) pss_nil))) (pss_one (ps_ret (pv 4))))), ?_⟩
    have fam := hF.fam C hC
    have hD' := hD
    obtain ⟨⟨dx, fi, ho⟩, here, few, ht, hp, tp, ⟨xs, htd, hdd⟩, past, walks, olds, len, lo⟩ := hD'
    obtain ⟨ha0, hx0, e0, hha, hhp⟩ := here
    cases e0
    have lx : xs.length = ds.length := hdd.length
    refine ⟨_, rfl, o, C, dx, _, _, rfl, ho, fam.cl, fam.pd, rfl, _, rfl, pd, _, rfl, SqL.of past, fun f1 n1 => ?_⟩
    rw [cut1]
    have e1 := sm_new (o := .lst ((pa.map fun q => V.ref q.1).drop 1)) n1
    refine ⟨f1, _, rfl, .inr (SqL.of upd_same), _, rfl, o, C, dx, _, _, rfl, e1 _ _ ho, fam.cl, fam.he, rfl, small_le ?_, fun f2 n2 => ⟨_, _, rfl, ?_⟩⟩
    · simp only [List.length_append, List.length_drop, List.length_map, List.length_singleton]
      omega
    have e2 := e1.trans (sm_new (o := .lst ((pa.map fun q => V.ref q.1).drop 1 ++ [.ref he])) n2)
    have lL : (ds.zip ((pa.map (·.2)).zip ((pa.map (·.2)).drop 1 ++ [ps.length]))).length = ds.length := by
      simp only [List.length_zip, List.length_map, List.length_append, List.length_drop, List.length_singleton]
      omega
    refine ⟨_, rfl, o, C, dx, _, _, rfl, e2 _ _ ho, fam.cl, fam.td, rfl, _, rfl, o, C, dx, _, _, rfl, e2 _ _ ho, fam.cl, fam.pd, rfl, _, rfl, td, pd, f2, xs, _, _, rfl, SqL.of (e2 _ _ htd), SqL.of (e2 _ _ past), SqL.of upd_same, for_it (walk_zip3 (n := ds.length) lx (by rw [List.length_map]; omega) (by
      simp only [List.length_append, List.length_drop, List.length_map, List.length_singleton]
      omega)) (fun i σ H' => ∃ v1 v2 v3, σ = [some (.ref o), v1, v2, v3, some (.int (lostS ((ds.zip ((pa.map (·.2)).zip ((pa.map (·.2)).drop 1 ++ [ps.length]))).take i))), some (.ref f2)] ∧ Same (upd (upd H f1 (.lst ((pa.map fun q => V.ref q.1).drop 1))) f2 (.lst ((pa.map fun q => V.ref q.1).drop 1 ++ [.ref he]))) H')
      ⟨none, none, none, rfl, Same.refl _⟩ (fun i σ H' _ ⟨_, _, _, _, e⟩ => ⟨SqL.of (e _ _ (e2 _ _ htd)), SqL.of (e _ _ (e2 _ _ past)), SqL.of (e _ _ upd_same)⟩) ?_ ?_⟩
    · rintro i v σ H1 H2 hi ⟨v1, v2, v3, rfl, e3⟩ ⟨T, x, y, z, rfl, hT, rfl, hx, hy, hz⟩
      obtain ⟨d, hd, hdx⟩ := Paired.at hdd hx
      have e4 := (e2.trans e3).trans (sm_new (o := .tup [x, y, z]) hT)
      have hdx1 := tpl_Dd _ _ _ _ (sm_t e4) hdx
      obtain ⟨a, w0, ws, rfl, ha⟩ := Deed.item0 (d := d) hdx1
      rw [List.getElem?_map] at hy
      obtain ⟨q, hq, rfl⟩ := Option.map_eq_some_iff.mp hy
      obtain ⟨ys, hys, lys⟩ := (olds q (List.mem_of_getElem? hq)).lst
      have hz2 : ∃ (b : Addr) (n : Nat) (zs : List V), z = .ref b ∧ H b = some (.lst zs) ∧ zs.length = n ∧ ((pa.map (·.2)).drop 1 ++ [ps.length])[i]? = some n := by
        by_cases c : i + 1 < pa.length
        · rw [List.getElem?_append_left (by simp only [List.length_drop, List.length_map]; omega), List.getElem?_drop, List.getElem?_map] at hz
          obtain ⟨q2, hq2, rfl⟩ := Option.map_eq_some_iff.mp hz
          obtain ⟨zs, hzs, lzs⟩ := (olds q2 (List.mem_of_getElem? hq2)).lst
          refine ⟨q2.1, q2.2, zs, rfl, hzs, lzs, ?_⟩
          rw [List.getElem?_append_left (by simp only [List.length_drop, List.length_map]; omega), List.getElem?_drop, List.getElem?_map, hq2]
          rfl
        · have ei : i = pa.length - 1 := by omega
          rw [List.getElem?_append_right (by simp only [List.length_drop, List.length_map]; omega)] at hz
          simp only [List.length_drop, List.length_map, ei, Nat.sub_self, List.getElem?_cons_zero, Option.some.injEq] at hz
          refine ⟨he, ps.length, hx0, hz.symm, hha, hhp.length, ?_⟩
          rw [List.getElem?_append_right (by simp only [List.length_drop, List.length_map]; omega)]
          simp only [List.length_drop, List.length_map, ei, Nat.sub_self, List.getElem?_cons_zero]
      obtain ⟨b, n, zs, rfl, hzs, lzs, hn⟩ := hz2
      have hL : (ds.zip ((pa.map (·.2)).zip ((pa.map (·.2)).drop 1 ++ [ps.length])))[i]? = some (d, q.2, n) := by
        rw [List.getElem?_zip_eq_some, List.getElem?_zip_eq_some]
        refine ⟨hd, ?_, hn⟩
        rw [List.getElem?_map, hq]
        rfl
      refine ⟨T, _, rfl, SqT.of upd_same, rfl, _, _, rfl, _, _, rfl, _, _, rfl, rfl, ?_⟩
      have step : lostS ((ds.zip ((pa.map (·.2)).zip ((pa.map (·.2)).drop 1 ++ [ps.length]))).take (i + 1)) = match d with | .turn => lostS ((ds.zip ((pa.map (·.2)).zip ((pa.map (·.2)).drop 1 ++ [ps.length]))).take i) + (q.2 : Int) - (n : Int) | _ => lostS ((ds.zip ((pa.map (·.2)).zip ((pa.map (·.2)).drop 1 ++ [ps.length]))).take i) := by
        unfold lostS
        rw [foldl_take hL]
      refine ⟨_, rfl, a, _, 0, .str (PySem.Str.ofString (deedS d)), rfl, rfl, SqT.of ha, atI_nat (j := 0) rfl, by cases d <;> rfl, _, rfl, ?_⟩
      cases d with
      | turn =>
        refine ifD (by rfl) ?_
        refine ⟨_, rfl, _, rfl, q.1, ys, rfl, .inl (SqL.of (e4 _ _ hys)), _, _, rfl, rfl, _, rfl, b, zs, rfl, .inl (SqL.of (e4 _ _ hzs)), _, _, rfl, rfl, ?_⟩
        rw [lys, lzs]
        exact ⟨_, _, _, by rw [step] <;> rfl, e3.trans (sm_new hT)⟩
      | shear => exact ifN (by decide) ⟨_, _, _, by rw [step] <;> rfl, e3.trans (sm_new hT)⟩
      | walk b' => exact ifN (by show ¬ V.str (PySem.Str.ofString "walk") = V.str (PySem.Str.ofString "turn"); decide) ⟨_, _, _, by rw [step] <;> rfl, e3.trans (sm_new hT)⟩
    · rintro σ H1 ⟨v1, v2, v3, rfl, e3⟩
      refine ⟨_, rfl, ?_⟩
      rw [← lL, List.take_length]
      exact k _ (e2.trans e3)

def s_lost (F : Kin) : Sp := fun vs H Q _ => ∃ (o td pd C : Addr) (ds : List Deed) (pa : List (Addr × Nat)) (he : Addr) (ps : List Px), vs = [.ref o] ∧ F.cnt C ∧ Dk H o td pd C ds pa he ps ∧ 1 ≤ pa.length ∧ ∀ H', Same H H' → Q (.int (lostS (ds.zip ((pa.map (·.2)).zip ((pa.map (·.2)).drop 1 ++ [ps.length]))))) H'
theorem sc_m_lost : FnScope ["self"] ["self"] (defScope (meth 65 1)) := ⟨rfl, rfl, rfl, by decide +kernel, rfl, by decide +kernel, by decide +kernel⟩
theorem m_lost {F : Kin} (hF : F.Ok K) (D : ∀ C, F.cnt C → Pp K "lost" "CountingCanvas.lost" (meth 65 1) C) (T : Fre mg)  (h_lostn : ∀ C, F.cnt C → MU P w K mg base C8.CX0 1 "lost_number" C (s_lostn F)) : ∀ C, F.cnt C → PU P w K mg base C8.CX0 2 "lost" C (s_lost F) := by
  intro C0 hC0
  refine pu_of (D C0 hC0) sc_m_lost (fun _ _ _ _ _ _ us hl => match us, hl with | [_], _ => rfl) (fun vs H Q E h => ?_) (fun f cdv A outer s H vs Q E hr h => ?_)
  · obtain ⟨_, _, _, _, _, _, _, _, rfl, _⟩ := h
    rfl
  · obtain ⟨o, td, pd, C, ds, pa, he, ps, rfl, hC, hD, h1, k⟩ := h
    refine ⟨_, (pss_one (ps_ret (pe_mu0 (CX := C8.CX0) (k := 1) (ES := fun _ => C8.E0) (pv 0) (hr.mono (by decide)) (fun _ => passN)))), ?_⟩
    obtain ⟨dx, fi, ho⟩ := hD.obj
    exact ⟨_, rfl, o, C, dx, _, _, rfl, ho, rfl, h_lostn C hC, o, td, pd, C, ds, pa, he, ps, rfl, hF.cnt C hC, hD, h1, k⟩

end
end TP


set_option Elab.async false
set_option linter.all false
set_option maxRecDepth 100000
set_option maxHeartbeats 4000000
namespace TP
open PySem PySem.Spec PyProof.Rows L2
open C8 (Cal pe_c pe_gc)
section
variable {P : Program} {w : World} {K : PySem.W.Frag} {mg : Str → Option Value} {base : Heap}


/-- a third power of no more than a thousand bits -/
def CPow3 (i j : Int) : Prop := j = 3 ∧ i.natAbs < 2 ^ 1000
theorem op_pow3 {X : Cx} : OpR X (binaryOp .Pow) (rI CPow3 fun i j => .int (i ^ j.toNat)) := by
  intro pins s σ H x y v u Q I rx ry ⟨i, j, ex, ey, ⟨e3, hi⟩, q⟩
  subst ex ey e3
  obtain ⟨t, rfl⟩ := rx
  obtain ⟨t2, rfl⟩ := ry
  refine pow_int (by decide) ?_ ⟨.int _, H, I.tok _, ⟨_, rfl⟩, q⟩
  have h1 : Builtin.Int.intBits i ≤ i.natAbs.log2 + 1 := by
    unfold Builtin.Int.intBits
    split <;> omega
  have h2 := PySem.Flt.log2_lt_of (by decide : 0 < 1000) hi
  have h3 : Builtin.Int.intBits i ≤ 1000 := by omega
  omega
/-- the law's source of numbers -/
def IsSrc (H : Hp) (a : Addr) (B : Nat) : Prop := ∃ g m n : Int, H a = some (.lst [.int g, .int m, .int n]) ∧ 0 ≤ g ∧ 0 ≤ m ∧ m < 2 ^ 200 ∧ 0 ≤ n ∧ n ≤ B
/-- all stays but what is at a -/
def Kp (a : Addr) (H H' : Hp) : Prop := ∀ b u, b ≠ a → H b = some u → H' b = some u
theorem Kp.refl (a : Addr) (H : Hp) : Kp a H H := fun _ _ _ h => h
theorem Kp.of {a : Addr} {H H' : Hp} (e : Same H H') : Kp a H H' := fun b u _ h => e b u h
theorem Kp.trans {a : Addr} {H H1 H2 : Hp} (e : Kp a H H1) (f : Kp a H1 H2) : Kp a H H2 := fun b u n h => f b u n (e b u n h)
theorem Kp.upd {a : Addr} {H H' : Hp} {o : HO} (e : Kp a H H') : Kp a H (L2.upd H' a o) := fun b u n h => by
  rw [upd_ne n]
  exact e b u n h
theorem Kp.new {a p : Addr} {H H' : Hp} {o : HO} (e : Kp a H H') (h : H' p = none) : Kp a H (L2.upd H' p o) := e.trans (Kp.of (sm_new h))
theorem IsSrc.tsm {H H' : Hp} {a : Addr} {B : Nat} (h : IsSrc H a B) (e : Kp a H H') : TSm H H' := by
  obtain ⟨g, m, n, h1, _⟩ := h
  exact fun b ys hb => e b _ (ne_of hb h1 (by intro z; cases z)) hb
theorem IsSrc.same {H H' : Hp} {a : Addr} {B : Nat} (h : IsSrc H a B) (e : Same H H') : IsSrc H' a B := by
  obtain ⟨g, m, n, h1, h2⟩ := h
  exact ⟨g, m, n, e _ _ h1, h2⟩
theorem IsSrc.mono {H : Hp} {a : Addr} {B B' : Nat} (h : IsSrc H a B) (l : B ≤ B') : IsSrc H a B' := by
  obtain ⟨g, m, n, h1, h2, h3, h4, h5, h6⟩ := h
  exact ⟨g, m, n, h1, h2, h3, h4, h5, by omega⟩
theorem IsSrc.there {H : Hp} {a : Addr} {B : Nat} (h : IsSrc H a B) : ∃ xs, H a = some (.lst xs) := by
  obtain ⟨g, m, n, h1, _⟩ := h
  exact ⟨_, h1⟩
theorem Kp.fresh {a p : Addr} {B : Nat} {H H' : Hp} (e : Kp a H H') (s : IsSrc H' a B) (h : H' p = none) : H p = none := by
  cases q : H p with
  | none => rfl
  | some u =>
    obtain ⟨xs, hx⟩ := s.there
    rw [e p u (Ne.symm (ne_of_none hx h)) q] at h
    cases h
theorem Kp.lst {a b : Addr} {B : Nat} {H H' : Hp} {α : Type} {R : Hp → V → α → Prop} (m : Tpl R) {ds : List α} (e : Kp a H H') (s : IsSrc H a B) (h : b ≠ a) (hb : IsL R H (.ref b) ds) : IsL R H' (.ref b) ds := by
  obtain ⟨b', xs, e1, e2, e3⟩ := hb
  cases e1
  exact ⟨b, xs, rfl, e b _ h e2, Paired.imp (fun x d q => m _ _ x d (s.tsm e) q) e3⟩
theorem Kp.mut {a l : Addr} {H H' : Hp} {o : HO} (e : Kp a H H') (h : H l = none) : Kp a H (L2.upd H' l o) := fun b u n hb => by
  rw [upd_ne (ne_of_none hb h)]
  exact e b u n hb
theorem IsSrc.off {H : Hp} {a l : Addr} {B : Nat} {o : HO} (h : IsSrc H a B) (n : a ≠ l) : IsSrc (L2.upd H l o) a B := by
  obtain ⟨g, m, k, h1, h2⟩ := h
  exact ⟨g, m, k, by rw [upd_ne n]; exact h1, h2⟩
theorem ten18 : ((10 : Int) ^ (18 : Int).toNat) = 1000000000000000000 := by decide
theorem ten44 : ((10 : Int) ^ (44 : Int).toNat) + 31 = 100000000000000000000000000000000000000000031 := by decide
theorem md {w c : Int} {N : Nat} (hc : 0 < c) (h : c ≤ 2 ^ N) : 0 ≤ w % c ∧ (w % c).natAbs < 2 ^ N := by
  have h1 := Int.emod_nonneg w (Int.ne_of_gt hc)
  have h2 := Int.emod_lt_of_pos w hc
  have e : ((2 : Int) ^ N) = ((2 ^ N : Nat) : Int) := by simp
  omega
theorem src_bd {E k : Int} {b : Bool} (h0 : 0 ≤ E) (h1 : E.natAbs < 2 ^ 150) (k0 : 0 ≤ k) (k1 : k ≤ 100) : 0 ≤ E * 97 + 2 * k + (if b = true then 1 else 0) ∧ E * 97 + 2 * k + (if b = true then 1 else 0) < 2 ^ 200 := by
  have e : (2 : Nat) ^ 150 = 1427247692705959881058285969449495136382746624 := by decide
  have e2 : (2 : Int) ^ 200 = 1606938044258990275541962092341162602522202993782792835301376 := by decide
  rw [e2]
  rw [e] at h1
  split <;> omega
theorem cube_ok {i : Int} (h : i.natAbs < 2 ^ (130 + 41)) : (i + 60013).natAbs < 2 ^ 1000 := by
  have e : (2 : Nat) ^ (130 + 41) = 2993155353253689176481146537402947624255349848014848 := by decide
  have e2 : (i + 60013).natAbs < 2 ^ 172 := by
    have : (2 : Nat) ^ 172 = 5986310706507378352962293074805895248510699696029696 := by decide
    omega
  exact Nat.lt_trans e2 (Nat.pow_lt_pow_right (by decide) (by decide))
theorem ten39 : ((10 : Int) ^ (39 : Int).toNat) + 3 = 1000000000000000000000000000000000000003 := by decide
theorem ten40 : ((10 : Int) ^ (40 : Int).toNat) + 121 = 10000000000000000000000000000000000000121 := by decide
theorem ab {i : Int} {n : Nat} (h0 : 0 ≤ i) (h : i < 2 ^ n) : i.natAbs < 2 ^ n := by
  have e : ((2 : Int) ^ n) = ((2 ^ n : Nat) : Int) := by simp
  omega

def s__law_source : Sp := fun vs H Q _ => ∃ (e k : Int), vs = [.int e, .int k] ∧ 0 ≤ k ∧ k ≤ 100 ∧ ∀ H' p, Same H H' → H p = none → IsSrc H' p 0 → Q (.ref p) H'
theorem sc__law_source : FnScope ["_law_entry", "_law_k", "_law_great"] ["_law_entry", "_law_k"] (defScope (top 68)) := ⟨rfl, rfl, rfl, by decide +kernel, rfl, by decide +kernel, by decide +kernel⟩
theorem c__law_source (D : Dm K mg "_law_source" (top 68)) (T : Fre mg)   : Cal P w K mg base 1 "_law_source" s__law_source [] := by
  refine cal_of D sc__law_source (fun _ _ _ _ _ _ us hl => match us, hl with | [_, _], _ => rfl) (fun vs H Q E h => ?_) (fun f cdv A outer s H vs Q E hr h => ?_)
  · obtain ⟨_, _, rfl, _⟩ := h
    rfl
  · obtain ⟨e, k, rfl, h0, h1, kk⟩ := h
    refine ⟨_, (pss_cons (ps_set (i := 2) sc__law_source.nd rfl (Or.inl rfl) (pe_callB call_abs (by rfl) T.abs (by decide +kernel) (pa_cons (pv 0) pa_nil))) (pss_one (ps_ret (pe_lst (pa_cons (pe_callB (call_max2 rfl) (by rfl) T.max (by decide +kernel) (pa_cons pe_int (pa_cons (pe_op op_sub (pv 2) (pe_op op_pow pe_int pe_int)) pa_nil))) (pa_cons (pe_op op_add (pe_op op_add (pe_op op_mulW (pe_op op_mod (pe_callTy call_int1 (by rfl) T.int PyProof.Rows.boot_int (pa_cons (pv 2) pa_nil)) (pe_op op_add (pe_op op_pow pe_int pe_int) pe_int)) pe_int) (pe_op op_mul pe_int (pv 1))) (pe_callTy call_int1 (by rfl) T.int PyProof.Rows.boot_int (pa_cons (pe_cmpR op_lt (pv 0) pe_int (nomark _)) pa_nil))) (pa_cons pe_int pa_nil))))))), ?_⟩
    refine ⟨_, rfl, e, rfl, ?_⟩
    refine ⟨_, rfl, _, _, rfl, rfl, ⟨by decide, by decide, by decide⟩, _, _, rfl, rfl, _, _, rfl, ?_⟩
    refine ⟨_, rfl, .inl ⟨_, rfl, _, _, rfl, rfl, ⟨by decide, by decide, by decide⟩, _, _, rfl, rfl, _, _, rfl, rfl, by show (0 : Int) < 10 ^ (44 : Int).toNat + 31; decide, ?_⟩⟩
    have mm := md (w := if e < 0 then -e else e) (c := ((10 : Int) ^ (44 : Int).toNat) + 31) (N := 150) (by decide) (by decide)
    refine ⟨_, _, rfl, rfl, wide_mul (a := 150) (b := 10) mm.2 (by decide) (by decide) (by decide) (by decide), _, rfl, _, _, rfl, rfl, .inl ⟨by decide, by decide⟩, _, _, rfl, rfl, ?_⟩
    refine ⟨_, rfl, _, _, rfl, rfl, .inr ⟨_, rfl, _, _, rfl, rfl, small_le (by decide : 3 ≤ 1000), fun p np => ?_⟩⟩
    refine kk _ p (sm_new np) np ⟨_, _, _, upd_same, ?_, (src_bd mm.1 mm.2 h0 h1).1, (src_bd mm.1 mm.2 h0 h1).2, by decide, by decide⟩
    show 0 ≤ if _ > (0 : Int) then _ else (0 : Int)
    split <;> omega

def s__law_draw : Sp := fun vs H Q _ => ∃ (a : Addr) (c : Int) (B : Nat), vs = [.ref a, .int c] ∧ IsSrc H a B ∧ 1 ≤ c ∧ c < 2 ^ 200 ∧ B < 2 ^ 40 ∧ ∀ H' d, Kp a H H' → IsSrc H' a (B + 1) → 0 ≤ d → d < c → Q (.int d) H'
theorem sc__law_draw : FnScope ["_law_source_here", "_law_count", "_law_digit", "_law_mixed"] ["_law_source_here", "_law_count"] (defScope (top 69)) := ⟨rfl, rfl, rfl, by decide +kernel, rfl, by decide +kernel, by decide +kernel⟩
theorem c__law_draw (D : Dm K mg "_law_draw" (top 69)) (T : Fre mg)   : Cal P w K mg base 1 "_law_draw" s__law_draw [] := by
  refine cal_of D sc__law_draw (fun _ _ _ _ _ _ us hl => match us, hl with | [_, _], _ => rfl) (fun vs H Q E h => ?_) (fun f cdv A outer s H vs Q E hr h => ?_)
  · obtain ⟨_, _, _, rfl, _⟩ := h
    rfl
  · obtain ⟨a, c, B, rfl, ⟨g, m, n, ha, g0, m0, m1, n0, n1⟩, c0, c1, hB, k⟩ := h
    refine ⟨_, (pss_cons (ps_if (pt_cmpR op_gt (pe_ix (r := rIxL K) ix_list (pv 0) pe_int (fun _ _ => rfl)) pe_int (nomark _)) (pss_cons (ps_set (i := 2) sc__law_draw.nd rfl (Or.inl rfl) (pe_op op_mod (pe_callTy call_int1 (by rfl) T.int PyProof.Rows.boot_int (pa_cons (pe_ix (r := rIxL K) ix_list (pv 0) pe_int (fun _ _ => rfl)) pa_nil)) (pv 1))) (pss_cons (ps_asg (pe_op op_fdivW (pe_ix (r := rIxL K) ix_list (pv 0) pe_int (fun _ _ => rfl)) (pv 1)) (pg_sub (pv 0) pe_int set_list)) (pss_one (ps_ret (pv 2))))) pss_nil) (pss_cons (ps_asg (pe_op op_add (pe_ix (r := rIxL K) ix_list (pv 0) pe_int (fun _ _ => rfl)) pe_int) (pg_sub (pv 0) pe_int set_list)) (pss_cons (ps_set (i := 3) sc__law_draw.nd rfl (Or.inl rfl) (pe_op op_mod (pe_callTy call_int1 (by rfl) T.int PyProof.Rows.boot_int (pa_cons (pe_op op_pow3 (pe_op op_add (pe_ix (r := rIxL K) ix_list (pv 0) pe_int (fun _ _ => rfl)) (pe_op op_mulW pe_int (pe_ix (r := rIxL K) ix_list (pv 0) pe_int (fun _ _ => rfl)))) pe_int) pa_nil)) (pe_op op_add (pe_op op_pow pe_int pe_int) pe_int))) (pss_cons (ps_set (i := 3) sc__law_draw.nd rfl (Or.inl rfl) (pe_op op_mod (pe_callTy call_int1 (by rfl) T.int PyProof.Rows.boot_int (pa_cons (pe_op op_pow3 (pe_op op_add (pe_op op_mulW (pv 3) (pe_ix (r := rIxL K) ix_list (pv 0) pe_int (fun _ _ => rfl))) pe_int) pe_int) pa_nil)) (pe_op op_add (pe_op op_pow pe_int pe_int) pe_int))) (pss_one (ps_ret (pe_op op_mod (pe_callTy call_int1 (by rfl) T.int PyProof.Rows.boot_int (pa_cons (pe_op op_fdivW (pv 3) pe_int) pa_nil)) (pv 1)))))))), ?_⟩
    refine ⟨_, rfl, a, _, 0, _, rfl, rfl, SqL.of ha, rfl, _, _, rfl, rfl, _, rfl, ?_⟩
    refine ite2 (fun hc => ?_) (fun hc => ?_)
    · refine ⟨_, rfl, a, _, 0, _, rfl, rfl, SqL.of ha, rfl, .inl ⟨_, rfl, _, rfl, _, _, rfl, rfl, by show 0 < c; omega, ?_⟩⟩
      refine ⟨_, rfl, a, _, 0, _, rfl, rfl, SqL.of ha, rfl, _, rfl, _, _, rfl, rfl, wide_div (b := 200) (by omega) (ab (by omega) c1) (by decide) (by decide), _, rfl, a, _, 0, 0, rfl, rfl, ha, rfl, ?_⟩
      refine ⟨_, rfl, k _ _ (Kp.refl a H).upd ⟨g / c, m, n, upd_same, Int.ediv_nonneg g0 (by omega), m0, m1, n0, by omega⟩ (Int.emod_nonneg _ (by omega)) (Int.emod_lt_of_pos _ (by omega))⟩
    · refine ⟨_, rfl, a, _, 2, _, rfl, rfl, SqL.of ha, rfl, _, _, rfl, rfl, _, rfl, a, _, 2, 2, rfl, rfl, ha, rfl, ?_⟩
      have h1 : upd H a (.lst [.int g, .int m, .int (n + 1)]) a = some (.lst [.int g, .int m, .int (n + 1)]) := upd_same
      have e40 : (2 : Nat) ^ 40 = 1099511627776 := by decide
      have nb : (n + 1).natAbs < 2 ^ 41 := ab (by omega) (by omega)
      refine ⟨_, rfl, a, _, 1, _, rfl, rfl, SqL.of h1, rfl, _, rfl, a, _, 2, _, rfl, rfl, SqL.of h1, rfl, _, _, rfl, rfl, wide_mul (a := 20) (b := 41) (by decide) nb (by decide) (by decide) (by decide), _, _, rfl, rfl, _, _, rfl, rfl, ⟨rfl, ?_⟩, .inl ⟨_, rfl, _, _, rfl, rfl, ⟨by decide, by decide, by decide⟩, _, _, rfl, rfl, _, _, rfl, rfl, by show (0 : Int) < 10 ^ (39 : Int).toNat + 3; decide, ?_⟩⟩
      · have e2 : (m + 900007 * (n + 1)).natAbs < 2 ^ 201 := ab (by omega) (by
          have : (2 : Int) ^ 201 = 2 * 2 ^ 200 := by decide
          omega)
        exact Nat.lt_trans e2 (Nat.pow_lt_pow_right (by decide) (by decide))
      have rr := md (w := (m + 900007 * (n + 1)) ^ (3 : Int).toNat) (c := ((10 : Int) ^ (39 : Int).toNat) + 3) (N := 130) (by decide) (by decide)
      refine ⟨_, rfl, _, rfl, a, _, 2, _, rfl, rfl, SqL.of h1, rfl, _, _, rfl, rfl, wide_mul (a := 130) (b := 41) rr.2 nb (by decide) (by decide) (by decide), _, _, rfl, rfl, _, _, rfl, rfl, ⟨rfl, ?_⟩, .inl ⟨_, rfl, _, _, rfl, rfl, ⟨by decide, by decide, by decide⟩, _, _, rfl, rfl, _, _, rfl, rfl, by show (0 : Int) < 10 ^ (40 : Int).toNat + 121; decide, ?_⟩⟩
      · have e2 := wide_lt rr.2 nb
        exact cube_ok e2
      refine ⟨_, rfl, _, _, rfl, rfl, wide_div (b := 20) (by decide) (by decide) (by decide) (by decide), .inl ⟨_, rfl, _, rfl, _, _, rfl, rfl, by show 0 < c; omega, ?_⟩⟩
      exact k _ _ (Kp.refl a H).upd ⟨g, m, n + 1, upd_same, g0, m0, m1, by omega, by omega⟩ (Int.emod_nonneg _ (by omega)) (Int.emod_lt_of_pos _ (by omega))

def s__law_common : Sp := fun vs H Q _ => ∃ a b : Int, vs = [.int a, .int b] ∧ Q (.int (Int.gcd a b : Nat)) H
theorem sc__law_common : FnScope ["_law_one", "_law_two"] ["_law_one", "_law_two"] (defScope (top 70)) := ⟨rfl, rfl, rfl, by decide +kernel, rfl, by decide +kernel, by decide +kernel⟩
theorem c__law_common (D : Dm K mg "_law_common" (top 70)) (T : Fre mg)   : Cal P w K mg base 1 "_law_common" s__law_common [] := by
  refine cal_of D sc__law_common (fun _ _ _ _ _ _ us hl => match us, hl with | [_, _], _ => rfl) (fun vs H Q E h => ?_) (fun f cdv A outer s H vs Q E hr h => ?_)
  · obtain ⟨_, _, rfl, _⟩ := h
    rfl
  · obtain ⟨a, b, rfl, k⟩ := h
    refine ⟨_, (pss_cons (ps_par (i := 0) (j := 1) (by rfl) sc__law_common.nd rfl rfl (by decide) rfl rfl (pa_cons (pe_callB call_abs (by rfl) T.abs (by decide +kernel) (pa_cons (pv 0) pa_nil)) (pa_cons (pe_callB call_abs (by rfl) T.abs (by decide +kernel) (pa_cons (pv 1) pa_nil)) pa_nil)) (by rfl)) (pss_cons (ps_while PassesOwn.never (pt_cmpR op_gt (pv 1) pe_int (nomark _)) (pss_one (ps_par (i := 0) (j := 1) (by rfl) sc__law_common.nd rfl rfl (by decide) rfl rfl (pa_cons (pv 1) (pa_cons (pe_op op_mod (pe_callTy call_int1 (by rfl) T.int PyProof.Rows.boot_int (pa_cons (pv 0) pa_nil)) (pv 1)) pa_nil)) (by rfl)))) (pss_one (ps_ret (pv 0))))), ?_⟩
    refine ⟨_, rfl, a, rfl, _, rfl, b, rfl, _, _, rfl, ?_⟩
    rw [abs_if, abs_if]
    refine while_by (fun σ H' => ∃ x y : Int, σ = [some (.int x), some (.int y)] ∧ H' = H ∧ 0 ≤ x ∧ 0 ≤ y ∧ Int.gcd x y = Int.gcd a b) muY ⟨_, _, rfl, rfl, Int.natCast_nonneg _, Int.natCast_nonneg _, by rw [Int.gcd_natCast_natCast]; rfl⟩ ?_ ?_
    · rintro σ H' ⟨x, y, rfl, rfl, hx, hy, hg⟩
      refine ⟨_, rfl, _, _, rfl, rfl, _, rfl, ?_⟩
      refine ite2 (fun hc => ?_) (fun hc => ?_)
      · have hc : 0 < y := of_decide_eq_true hc
        refine ⟨_, rfl, _, rfl, .inl ⟨_, rfl, _, rfl, _, _, rfl, rfl, hc, _, _, rfl, ⟨_, _, rfl, rfl, hy, Int.emod_nonneg _ (by omega), gcd_step hx hc hg⟩, ?_⟩⟩
        show (x % y).toNat < y.toNat
        have := Int.emod_lt_of_pos x hc
        omega
      · have hc : ¬ 0 < y := fun z => hc (decide_eq_true z)
        have e : y = 0 := by omega
        subst e
        refine ⟨_, rfl, ?_⟩
        have e2 : x = ((Int.gcd a b : Nat) : Int) := by
          rw [← hg, Int.gcd_zero_right]
          omega
        rw [e2]
        exact k
    · intro σ H Q1 Q2 hq hc
      obtain ⟨v, h1, i, j, h2, h3, c, h4, h5⟩ := hc
      exact ⟨v, h1, i, j, h2, h3, c, h4, hq _ _ h5⟩

end
end TP


set_option Elab.async false
set_option linter.all false
set_option maxRecDepth 100000
set_option maxHeartbeats 4000000
namespace TP
open PySem PySem.Spec PyProof.Rows L2
open C8 (Cal pe_c pe_gc)
section
variable {P : Program} {w : World} {K : PySem.W.Frag} {mg : Str → Option Value} {base : Heap}


/-! ### lists of pixels as data -/
def encL (ps : List Px) : PyData := .list (ps.map encP)
theorem dpAll_P {K : PySem.W.Frag} {H : Hp} : ∀ {xs : List V} {ps : List Px}, Paired (IsP H) xs ps → DpAll K H xs (ps.map encP)
  | _, _, .nil => .nil
  | _, _, .cons h t => .cons (dp_P h) (dpAll_P t)
theorem dp_L {K : PySem.W.Frag} {H : Hp} {v : V} {ps : List Px} (h : Pic H v ps) : Dp K H v (encL ps) := by
  obtain ⟨a, xs, rfl, ha, hp⟩ := h
  exact .lst (SqL.of ha) (dpAll_P hp)
theorem canLay_L : ∀ ps : List Px, PyData.canLayAll0 (ps.map encP) = true
  | [] => by simp [PyData.canLayAll0]
  | z :: ps => by
    have ih := canLay_L ps
    simp only [List.map_cons, PyData.canLayAll0, ih, Bool.and_true]
    simp [encP, PyData.canLay0, PyData.canLayAll0]
theorem depth_L : ∀ ps : List Px, PyData.depthAll (ps.map encP) ≤ 2
  | [] => by simp [PyData.depthAll]
  | z :: ps => by
    have ih := depth_L ps
    have h : (encP z).depth ≤ 2 := by simp [encP, PyData.depth, PyData.depthAll]
    rw [List.map_cons, PyData.depthAll]
    exact Nat.max_le.mpr ⟨h, ih⟩
theorem shaped_L (ps : List Px) : SeqAt.shaped (encL ps) = true := by
  have h1 := canLay_L ps
  have h2 := depth_L ps
  unfold SeqAt.shaped encL
  rw [Bool.and_eq_true]
  refine ⟨by rw [PyData.canLay0]; exact h1, decide_eq_true ?_⟩
  rw [PyData.depth]
  omega
theorem eqv_P (z w : Px) : PyData.eqv (encP z) (encP w) = decide (z = w) := by
  obtain ⟨a, b⟩ := z
  obtain ⟨c, d⟩ := w
  rw [Bool.eq_iff_iff, decide_eq_true_eq]
  simp [encP, PyData.eqv, PyData.eqvAll]
theorem eqvAll_L : ∀ ps qs : List Px, PyData.eqvAll (ps.map encP) (qs.map encP) = decide (ps = qs)
  | [], [] => by simp [PyData.eqvAll]
  | [], _ :: _ => by simp [PyData.eqvAll]
  | _ :: _, [] => by simp [PyData.eqvAll]
  | z :: ps, w :: qs => by
    have ih := eqvAll_L ps qs
    rw [List.map_cons, List.map_cons, PyData.eqvAll, ih, eqv_P, Bool.eq_iff_iff]
    simp
theorem eqv_L (ps qs : List Px) : PyData.eqv (encL ps) (encL qs) = decide (ps = qs) := by
  unfold encL
  rw [PyData.eqv, eqvAll_L]
/-- the chosen one of a list of numbers -/
theorem pickL {ns : List Int} {i : Int} {Pr : Int → Prop} (h : ∀ n ∈ ns, Pr n) (h0 : 0 ≤ i) (h1 : i < ns.length) : ∃ q, atI (ns.map V.int) i = some (.int q) ∧ Pr q := by
  obtain ⟨k, rfl⟩ := Int.eq_ofNat_of_zero_le h0
  have hk : k < ns.length := by omega
  refine ⟨ns[k], atI_nat ?_, h _ (List.getElem_mem hk)⟩
  rw [List.getElem?_map, List.getElem?_eq_getElem hk]
  rfl
theorem gcd_near (p : Int) : Int.gcd p (p - 1) = 1 := by
  have h := Int.dvd_sub (Int.gcd_dvd_left (a := p) (b := p - 1)) (Int.gcd_dvd_right (a := p) (b := p - 1))
  rw [show p - (p - 1) = 1 by omega] at h
  have h2 := Int.eq_one_of_dvd_one (Int.natCast_nonneg _) h
  omega


def muQ : L2.St → Hp → Nat := fun σ _ => match σ with
  | [_, _, some (.int p), _, some (.int q)] => (p - q).toNat
  | _ => 0
theorem b200 {i : Int} (h : i ≤ 10 ^ 100) : i < 2 ^ 200 ∨ 2 ^ 200 ≤ i ∧ i ≤ 10 ^ 100 := by omega

def s__law_spin : Sp := fun vs H Q _ => ∃ (a : Addr) (M : Int) (B : Nat), vs = [.ref a, .int M] ∧ IsSrc H a B ∧ 1 ≤ M ∧ M ≤ 10 ^ 15 ∧ B + 10 < 2 ^ 40 ∧ ∀ H' v t, Kp a H H' → IsSrc H' a (B + 7) → IsTn H' v t → Good t → Q v H'
theorem sc__law_spin : FnScope ["_law_source_here", "_law_most", "_law_p", "_law_sort", "_law_q"] ["_law_source_here", "_law_most"] (defScope (top 71)) := ⟨rfl, rfl, rfl, by decide +kernel, rfl, by decide +kernel, by decide +kernel⟩
theorem c__law_spin (D : Dm K mg "_law_spin" (top 71)) (T : Fre mg) (h__law_draw : Cal P w K mg base 1 "_law_draw" s__law_draw []) (h__law_common : Cal P w K mg base 1 "_law_common" s__law_common [])  : Cal P w K mg base 2 "_law_spin" s__law_spin [] := by
  refine cal_of D sc__law_spin (fun _ _ _ _ _ _ us hl => match us, hl with | [_, _], _ => rfl) (fun vs H Q E h => ?_) (fun f cdv A outer s H vs Q E hr h => ?_)
  · obtain ⟨_, _, _, rfl, _⟩ := h
    rfl
  · obtain ⟨a, M, B, rfl, src, m0, m1, hB, k⟩ := h
    refine ⟨_, (pss_cons (ps_par (i := 2) (j := 3) (by rfl) sc__law_spin.nd rfl rfl (by decide) rfl rfl (pa_cons (pe_op op_add pe_int (pe_c h__law_draw hr (by decide) (by rfl) (pa_cons (pv 0) (pa_cons (pv 1) pa_nil)))) (pa_cons (pe_c h__law_draw hr (by decide) (by rfl) (pa_cons (pv 0) (pa_cons pe_int pa_nil))) pa_nil)) (by rfl)) (pss_cons (ps_set (i := 4) sc__law_spin.nd rfl (Or.inl rfl) (pe_ix (r := rIxL K) ix_list (pe_lst (pa_cons (pe_c h__law_draw hr (by decide) (by rfl) (pa_cons (pv 0) (pa_cons (pv 2) pa_nil))) (pa_cons (pe_op op_sub (pv 2) pe_int) (pa_cons (pe_callB (call_max2 rfl) (by rfl) T.max (by decide +kernel) (pa_cons pe_int (pa_cons (pe_op op_sub (pv 2) pe_int) pa_nil))) (pa_cons (pe_c h__law_draw hr (by decide) (by rfl) (pa_cons (pv 0) (pa_cons (pe_callB (call_min2 rfl) (by rfl) T.min (by decide +kernel) (pa_cons (pv 2) (pa_cons pe_int pa_nil))) pa_nil))) (pa_cons (pe_c h__law_draw hr (by decide) (by rfl) (pa_cons (pv 0) (pa_cons (pv 2) pa_nil))) pa_nil)))))) (pv 3) (fun _ _ => rfl))) (pss_cons (ps_while PassesOwn.never (PW.pt (pw_or (pt_cmpR op_gt (pe_c h__law_common hr (by decide) (by rfl) (pa_cons (pv 2) (pa_cons (pv 4) pa_nil))) pe_int (nomark _)) (pw_or1 (pt_cmpR op_eq (pe_op op_mod (pe_callTy call_int1 (by rfl) T.int PyProof.Rows.boot_int (pa_cons (pe_op op_add (pv 2) (pv 4)) pa_nil)) pe_int) pe_int (nomark _))))) (pss_one (ps_set (i := 4) sc__law_spin.nd rfl (Or.inl rfl) (pe_op op_add (pv 4) pe_int)))) (pss_one (ps_ret (pe_tup (pa_cons (pv 2) (pa_cons (pe_ix (r := rIxL K) ix_list (pe_lst (pa_cons (pv 4) (pa_cons (pe_un un_neg (pv 4)) pa_nil))) (pe_c h__law_draw hr (by decide) (by rfl) (pa_cons (pv 0) (pa_cons pe_int pa_nil))) (fun _ _ => rfl)) (pa_cons (pe_c h__law_draw hr (by decide) (by rfl) (pa_cons (pv 0) (pa_cons pe_int pa_nil))) pa_nil))))))))), ?_⟩
    have e15 : (10 : Int) ^ 15 = 1000000000000000 := by decide
    have e200 : (2 : Int) ^ 200 = 1606938044258990275541962092341162602522202993782792835301376 := by decide
    refine ⟨_, rfl, _, rfl, a, M, B, rfl, src, by omega, by omega, by omega, fun H1 d1 k1 s1 l1 u1 => ?_⟩
    refine ⟨_, _, rfl, rfl, _, rfl, a, 5, B + 1, rfl, s1, by omega, by omega, by omega, fun H2 d2 k2 s2 l2 u2 => ?_⟩
    refine ⟨_, _, rfl, ?_⟩
    have p1 : 1 ≤ 1 + d1 := by omega
    have p2 : 1 + d1 ≤ 10 ^ 15 := by omega
    dsimp only
    generalize hp : 1 + d1 = p at p1 p2 ⊢
    refine ⟨_, rfl, _, rfl, a, p, B + 2, rfl, s2, by omega, by omega, by omega, fun H3 d3 k3 s3 l3 u3 => ?_⟩
    refine ⟨_, rfl, _, _, rfl, rfl, _, rfl, _, _, rfl, rfl, _, _, rfl, ?_⟩
    refine ⟨_, rfl, _, rfl, _, _, rfl, a, _, B + 3, rfl, s3, by split <;> omega, by split <;> omega, by omega, fun H4 d4 k4 s4 l4 u4 => ?_⟩
    have u4' : d4 < p := by split at u4 <;> omega
    refine ⟨_, rfl, _, rfl, a, p, B + 4, rfl, s4, by omega, by omega, by omega, fun H5 d5 k5 s5 l5 u5 => ?_⟩
    refine ⟨small_le (by decide : 5 ≤ 1000), fun l nl => ?_⟩
    obtain ⟨q0, hq0, hq1⟩ := pickL (ns := [d3, p - 1, if p - 3 > 0 then p - 3 else 0, d4, d5]) (i := d2) (Pr := fun n => 0 ≤ n ∧ n ≤ p - 1) (by
      intro n hn
      simp only [List.mem_cons, List.not_mem_nil, or_false] at hn
      rcases hn with z | z | z | z | z <;> subst z <;> first | omega | (split <;> omega)) l2 u2
    refine ⟨_, rfl, l, _, d2, _, rfl, rfl, SqL.of upd_same, hq0, ?_⟩
    have kp5 := (((k1.trans k2).trans k3).trans k4).trans k5
    have kp6 := kp5.new (o := .lst [.int d3, .int (p - 1), .int (if p - 3 > 0 then p - 3 else 0), .int d4, .int d5]) nl
    have s6 := s5.same (sm_new (o := .lst [.int d3, .int (p - 1), .int (if p - 3 > 0 then p - 3 else 0), .int d4, .int d5]) nl)
    generalize upd H5 l (.lst [.int d3, .int (p - 1), .int (if p - 3 > 0 then p - 3 else 0), .int d4, .int d5]) = H6 at kp6 s6
    refine while_by (fun σ H' => ∃ q : Int, σ = [some (.ref a), some (.int M), some (.int p), some (.int d2), some (.int q)] ∧ H' = H6 ∧ 0 ≤ q ∧ q ≤ p - 1) muQ ⟨q0, rfl, rfl, hq1.1, hq1.2⟩ ?_ ?_
    · rintro σ H' ⟨q, rfl, rfl, q1, q2⟩
      refine ⟨_, rfl, _, rfl, _, _, rfl, _, _, rfl, rfl, _, rfl, ?_⟩
      have gp : Int.gcd p q ≠ 0 := fun z => by
        have := Int.gcd_eq_zero_iff.mp z
        omega
      have more : ∀ (_ : q ≤ p - 2), ∃ v, (some (V.int q) : Option V) = some v ∧ ∃ i j, v = .int i ∧ V.int 1 = .int j ∧ True ∧ True := fun _ => ⟨_, rfl, _, _, rfl, rfl, trivial, trivial⟩
      refine ite2 (fun hc => ?_) (fun hc => ?_)
      · have hc : ((Int.gcd p q : Nat) : Int) > 1 := of_decide_eq_true hc
        have q3 : q ≤ p - 2 := by
          by_cases z : q = p - 1
          · rw [z, gcd_near] at hc
            omega
          · omega
        show if true = true then _ else _
        refine iteT ?_
        refine ⟨_, rfl, _, _, rfl, rfl, ⟨q + 1, rfl, rfl, by omega, by omega⟩, ?_⟩
        show (p - (q + 1)).toNat < (p - q).toNat
        omega
      · have g1 : Int.gcd p q = 1 := by
          have : ¬ ((Int.gcd p q : Nat) : Int) > 1 := fun z => hc (decide_eq_true z)
          omega
        refine ⟨_, rfl, _, rfl, _, _, rfl, rfl, .inl ⟨_, rfl, _, _, rfl, rfl, by show (0 : Int) < 2; decide, rfl, _, rfl, ?_⟩⟩
        refine ite2 (fun hc2 => ?_) (fun hc2 => ?_)
        · have hc2 : V.int ((p + q) % 2) = V.int 0 := of_decide_eq_true hc2
          have hc3 : (p + q) % 2 = 0 := V.int.inj hc2
          refine ⟨_, rfl, _, _, rfl, rfl, ⟨q + 1, rfl, rfl, by omega, by omega⟩, ?_⟩
          show (p - (q + 1)).toNat < (p - q).toNat
          omega
        · have od : (p + q) % 2 = 1 := by
            have : ¬ (p + q) % 2 = 0 := fun z => hc2 (decide_eq_true (show V.int ((p + q) % 2) = V.int 0 by rw [z]))
            omega
          refine ⟨_, rfl, _, rfl, _, rfl, _, rfl, small_le (by decide : 2 ≤ 1000), fun l2 nl2 => ?_⟩
          have s7 := s6.same (sm_new (o := .lst [.int q, .int (-q)]) nl2)
          have kp7 := kp6.new (o := .lst [.int q, .int (-q)]) nl2
          refine ⟨_, rfl, a, 2, B + 5, rfl, s7, by omega, by omega, by omega, fun H7 d7 k7 s7 l7 u7 => ?_⟩
          obtain ⟨r, hr1, hr2⟩ := pickL (ns := [q, -q]) (i := d7) (Pr := fun n => n = q ∨ n = -q) (by
            intro n hn
            simp only [List.mem_cons, List.not_mem_nil, or_false] at hn
            exact hn) l7 u7
          obtain ⟨xs6, hx6⟩ := s6.there
          have l2a : l2 ≠ a := Ne.symm (ne_of_none hx6 nl2)
          refine ⟨l2, _, d7, _, rfl, rfl, SqL.of (k7 _ _ l2a upd_same), hr1, ?_⟩
          refine ⟨_, rfl, a, 4, B + 6, rfl, (by assumption), by omega, by omega, by omega, fun H8 d8 k8 s8 l8 u8 => ?_⟩
          refine ⟨small_le (by decide : 3 ≤ 1000), fun t nt => ?_⟩
          refine k _ _ (p, r, d8) (((kp7.trans k7).trans k8).new nt) (s8.same (sm_new nt)) ⟨t, rfl, upd_same⟩ ?_
          refine ⟨?_, ?_, p2, l8, by show d8 ≤ 3; omega, ?_, ?_⟩
          · show -p < r
            omega
          · show r < p
            omega
          · show (p + r) % 2 = 1
            omega
          · show Int.gcd p r = 1
            rcases hr2 with z | z <;> rw [z]
            · exact g1
            · rw [Int.gcd_neg]
              exact g1
    · intro σ H Q1 Q2 hq hc
      obtain ⟨v1, h1, v2, h2, a1, b1, h3, i, j, h4, h5, c, h6, h7⟩ := hc
      refine ⟨v1, h1, v2, h2, a1, b1, h3, i, j, h4, h5, c, h6, ?_⟩
      cases c with
      | true => exact hq _ _ h7
      | false =>
        obtain ⟨v3, h8, v4, h9, i2, j2, h10, h11, h12⟩ := h7
        refine ⟨v3, h8, v4, h9, i2, j2, h10, h11, ?_⟩
        rcases h12 with ⟨i3, h13, i4, j4, h14, h15, h16, h17, c2, h18, h19⟩ | ⟨b3, h13, i4, j4, h14, h15, h16, h17, c2, h18, h19⟩
        · exact .inl ⟨i3, h13, i4, j4, h14, h15, h16, h17, c2, h18, hq _ _ h19⟩
        · exact .inr ⟨b3, h13, i4, j4, h14, h15, h16, h17, c2, h18, hq _ _ h19⟩


/-- a pixel no wider than N -/
def Nr (N : Int) (z : Px) : Prop := -N ≤ z.1 ∧ z.1 ≤ N ∧ -N ≤ z.2 ∧ z.2 ≤ N
theorem Nr.mono {N M : Int} {z : Px} (h : Nr N z) (l : N ≤ M) : Nr M z := by
  unfold Nr at *
  omega
theorem Nr.bd {z : Px} (h : Nr (10 ^ 40) z) : Bd 200 z := by
  have e : (2 : Nat) ^ 200 = 1606938044258990275541962092341162602522202993782792835301376 := by decide
  have e2 : (10 : Int) ^ 40 = 10000000000000000000000000000000000000000 := by decide
  unfold Nr at h
  unfold Bd
  rw [e2] at h
  rw [e]
  omega

def s__law_dot : Sp := fun vs H Q _ => ∃ (a : Addr) (W : Int) (B : Nat), vs = [.ref a, .int W] ∧ IsSrc H a B ∧ 0 ≤ W ∧ W ≤ 10 ^ 30 ∧ B + 10 < 2 ^ 40 ∧ ∀ H' p z, Kp a H H' → IsSrc H' a (B + 2) → IsP H' (.ref p) z → Nr W z → Q (.ref p) H'
theorem sc__law_dot : FnScope ["_law_source_here", "_law_wide", "_law_spots", "_law_k"] ["_law_source_here", "_law_wide"] (defScope (top 72)) := ⟨rfl, rfl, rfl, by decide +kernel, rfl, by decide +kernel, by decide +kernel⟩
theorem c__law_dot (D : Dm K mg "_law_dot" (top 72)) (T : Fre mg) (h__law_draw : Cal P w K mg base 1 "_law_draw" s__law_draw [])  : Cal P w K mg base 2 "_law_dot" s__law_dot [] := by
  refine cal_of D sc__law_dot (fun _ _ _ _ _ _ us hl => match us, hl with | [_, _], _ => rfl) (fun vs H Q E h => ?_) (fun f cdv A outer s H vs Q E hr h => ?_)
  · obtain ⟨_, _, _, rfl, _⟩ := h
    rfl
  · obtain ⟨a, W, B, rfl, src, w0, w1, hB, k⟩ := h
    refine ⟨_, (pss_cons (ps_set (i := 2) sc__law_dot.nd rfl (Or.inl rfl) (pe_lst pa_nil)) (pss_cons (ps_for PassesOwn.never rfl (pi_range1 (by rfl) T.rng (pa_cons pe_int pa_nil)) (pg_name (i := 3) sc__law_dot.nd rfl (Or.inl rfl)) (pss_one (ps_expr (pe_bm PySem.F.plainAttrs_list PySem.F.slot_list_append PySem.F.type_list_append mt_append (pv 2) (pa_cons (pe_op op_sub (pe_c h__law_draw hr (by decide) (by rfl) (pa_cons (pv 0) (pa_cons (pe_op op_add (pe_op op_mulW pe_int (pv 1)) pe_int) pa_nil))) (pv 1)) pa_nil))))) (pss_one (ps_ret (pe_callTy call_tuple_of (by rfl) T.tup (by decide +kernel) (pa_cons (pv 2) pa_nil)))))), ?_⟩
    have e30 : (10 : Int) ^ 30 = 1000000000000000000000000000000 := by decide
    have e200 : (2 : Int) ^ 200 = 1606938044258990275541962092341162602522202993782792835301376 := by decide
    obtain ⟨xs0, hx0⟩ := src.there
    refine ⟨Nat.zero_le _, fun l nl => ?_⟩
    have la : l ≠ a := Ne.symm (ne_of_none hx0 nl)
    refine ⟨2, rfl, by decide, by decide, for_range (lo := 0) (n := 2) (fun i σ H' => ∃ kv ns, σ = [some (.ref a), some (.int W), some (.ref l), kv] ∧ Kp a H H' ∧ IsSrc H' a (B + i) ∧ H' l = some (.lst (ns.map V.int)) ∧ ns.length = i ∧ ∀ n ∈ ns, -W ≤ n ∧ n ≤ W) ⟨none, [], rfl, (Kp.refl a H).new nl, src.same (sm_new nl), upd_same, rfl, fun _ h => (nomatch h)⟩ ?_ ?_⟩
    · rintro i σ H' hi ⟨kv, ns, rfl, kp, s1, hl, ln, hb⟩
      refine ⟨_, rfl, .inl ⟨rfl, _, SqL.of hl⟩, _, rfl, _, rfl, _, _, rfl, rfl, wide_mul (a := 2) (b := 200) (by decide) (ab w0 (by omega)) (by decide) (by decide) (by decide), _, _, rfl, rfl, a, _, B + i, rfl, s1, by omega, by omega, by omega, fun H2 d k2 s2 d0 d1 => ?_⟩
      have hl2 := k2 _ _ la hl
      refine ⟨_, rfl, _, _, rfl, rfl, l, _, _, rfl, rfl, hl2, small_lt (by rw [List.length_map]; omega), ?_⟩
      refine ⟨_, ns ++ [d - W], rfl, ?_, ?_, ?_, by rw [List.length_append, ln]; rfl, fun n hn => ?_⟩
      · exact (kp.trans k2).mut nl
      · exact s2.off (Ne.symm la)
      · rw [List.map_append]
        exact upd_same
      · rcases List.mem_append.mp hn with hn | hn
        · exact hb n hn
        · have := List.mem_singleton.mp hn
          omega
    · rintro σ H' ⟨kv, ns, rfl, kp, s1, hl, ln, hb⟩
      obtain ⟨x, y, rfl⟩ : ∃ x y, ns = [x, y] := by
        match ns, ln with
        | [x, y], _ => exact ⟨x, y, rfl⟩
      refine ⟨_, rfl, l, _, rfl, .inl ⟨SqL.of hl, fun p np => ?_⟩⟩
      have hx := hb x List.mem_cons_self
      have hy := hb y (List.mem_cons_of_mem _ List.mem_cons_self)
      exact k _ p (x, y) (kp.new np) (s1.same (sm_new np)) ⟨p, rfl, upd_same⟩ ⟨hx.1, hx.2, hy.1, hy.2⟩


theorem at_pick {H : Hp} {xs : List V} {ps : List Px} {d : Int} (h : Paired (IsP H) xs ps) (h0 : 0 ≤ d) (h1 : d < (xs.length : Int)) : ∃ x z, atI xs d = some x ∧ IsP H x z ∧ z ∈ ps := by
  obtain ⟨k, rfl⟩ := Int.eq_ofNat_of_zero_le h0
  have hk : k < xs.length := by omega
  obtain ⟨z, hz, pz⟩ := Paired.at h (List.getElem?_eq_getElem hk)
  exact ⟨_, z, atI_nat (List.getElem?_eq_getElem hk), pz, List.mem_of_getElem? hz⟩

def s__law_dots : Sp := fun vs H Q _ => ∃ (a : Addr) (m W : Int) (B : Nat), vs = [.ref a, .int m, .int W] ∧ IsSrc H a B ∧ 0 ≤ m ∧ m ≤ 20 ∧ 0 ≤ W ∧ W ≤ 10 ^ 30 ∧ B + 1000 < 2 ^ 40 ∧ ∀ H' p ps, Kp a H H' → H p = none → IsSrc H' a (B + 300) → Pic H' (.ref p) ps → Asc ps → ps.length ≤ 20 → BdL 200 ps → Q (.ref p) H'
theorem sc__law_dots : FnScope ["_law_source_here", "_law_many", "_law_wide", "_law_found", "_law_k", "_law_dot_here", "_law_spot"] ["_law_source_here", "_law_many", "_law_wide"] (defScope (top 73)) := ⟨rfl, rfl, rfl, by decide +kernel, rfl, by decide +kernel, by decide +kernel⟩
theorem c__law_dots (D : Dm K mg "_law_dots" (top 73)) (T : Fre mg) (h__law_draw : Cal P w K mg base 1 "_law_draw" s__law_draw []) (h__law_dot : Cal P w K mg base 2 "_law_dot" s__law_dot [])  : Cal P w K mg base 3 "_law_dots" s__law_dots [] := by
  refine cal_of D sc__law_dots (fun _ _ _ _ _ _ us hl => match us, hl with | [_, _, _], _ => rfl) (fun vs H Q E h => ?_) (fun f cdv A outer s H vs Q E hr h => ?_)
  · obtain ⟨_, _, _, _, rfl, _⟩ := h
    rfl
  · obtain ⟨a, m, W, B, rfl, src, m0, m1, w0, w1, hB, k⟩ := h
    refine ⟨_, (pss_cons (ps_set (i := 3) sc__law_dots.nd rfl (Or.inl rfl) (pe_lst pa_nil)) (pss_cons (ps_for PassesOwn.never rfl (pi_range1 (by rfl) T.rng (pa_cons (pe_c h__law_draw hr (by decide) (by rfl) (pa_cons (pv 0) (pa_cons (pe_op op_add (pv 1) pe_int) pa_nil))) pa_nil)) (pg_name (i := 4) sc__law_dots.nd rfl (Or.inl rfl)) (pss_cons (ps_set (i := 5) sc__law_dots.nd rfl (Or.inl rfl) (pe_c h__law_dot hr (by decide) (by rfl) (pa_cons (pv 0) (pa_cons (pv 2) pa_nil)))) (pss_cons (ps_if (PW.pt (pw_and (pt_cmpR (op_neD hr.units) (pv 3) (pe_lst pa_nil) (nomark _)) (pw_and1 (pt_cmpR op_gt (pe_c h__law_draw hr (by decide) (by rfl) (pa_cons (pv 0) (pa_cons pe_int pa_nil))) pe_int (nomark _))))) (pss_cons (ps_set (i := 6) sc__law_dots.nd rfl (Or.inl rfl) (pe_ix (r := rIxL K) ix_list (pv 3) (pe_c h__law_draw hr (by decide) (by rfl) (pa_cons (pv 0) (pa_cons (pe_callB call_len_seq (by rfl) T.len PySem.boot_len (pa_cons (pv 3) pa_nil)) pa_nil))) (fun _ _ => rfl))) (pss_one (ps_set (i := 5) sc__law_dots.nd rfl (Or.inl rfl) (pe_tup (pa_cons (pe_op op_add (pe_ix (r := rIxT K) ix_tup (pv 6) pe_int (fun _ _ => rfl)) (pe_c h__law_draw hr (by decide) (by rfl) (pa_cons (pv 0) (pa_cons pe_int pa_nil)))) (pa_cons (pe_op op_add (pe_ix (r := rIxT K) ix_tup (pv 6) pe_int (fun _ _ => rfl)) (pe_c h__law_draw hr (by decide) (by rfl) (pa_cons (pv 0) (pa_cons pe_int pa_nil)))) pa_nil)))))) pss_nil) (pss_one (ps_expr (pe_bm PySem.F.plainAttrs_list PySem.F.slot_list_append PySem.F.type_list_append mt_append (pv 3) (pa_cons (pv 5) pa_nil))))))) (pss_one (ps_ret (pe_callB (cr_sortSet (by rfl) hr.units) (by rfl) T.srt (by decide +kernel) (pa_cons (pe_callTy (cr_setOf (by rfl) hr.units) (by rfl) T.set (by decide +kernel) (pa_cons (pv 3) pa_nil)) pa_nil)))))), ?_⟩
    have e30 : (10 : Int) ^ 30 = 1000000000000000000000000000000 := by decide
    have e200 : (2 : Int) ^ 200 = 1606938044258990275541962092341162602522202993782792835301376 := by decide
    obtain ⟨xs0, hx0⟩ := src.there
    refine ⟨Nat.zero_le _, fun l nl => ?_⟩
    have la : l ≠ a := Ne.symm (ne_of_none hx0 nl)
    have kp0 := (Kp.refl a H).new (o := .lst []) nl
    refine ⟨_, rfl, _, rfl, _, _, rfl, rfl, a, _, B, rfl, src.same (sm_new nl), by omega, by omega, by omega, fun H1 d k1 s1 d0 d1 => ?_⟩
    have kp1 := kp0.trans k1
    refine ⟨d, rfl, by omega, by omega, for_range (lo := 0) (n := d.toNat) (fun i σ H' => ∃ v1 v2 v3 xs ps, σ = [some (.ref a), some (.int m), some (.int W), some (.ref l), v1, v2, v3] ∧ Kp a H H' ∧ IsSrc H' a (B + 1 + 10 * i) ∧ H' l = some (.lst xs) ∧ Paired (IsP H') xs ps ∧ ps.length = i ∧ ∀ z ∈ ps, Nr (W + i) z) ⟨none, none, none, [], [], rfl, kp1, s1, k1 _ _ la upd_same, .nil, rfl, fun _ h => (nomatch h)⟩ ?_ ?_⟩
    · rintro i σ H2 hi ⟨v1, v2, v3, xs, ps, rfl, kp2, s2, hl2, hp2, lps, hb2⟩
      have lxs : xs.length = i := by rw [hp2.length, lps]
      have hi20 : i < 20 := by omega
      refine ⟨_, rfl, _, rfl, a, W, _, rfl, s2, w0, w1, by omega, fun H3 p z k3 s3 hz3 nz3 => ?_⟩
      have fin : ∀ H4 (q : Addr) z' v1 v3, Kp a H2 H4 → IsSrc H4 a (B + 1 + 10 * (i + 1)) → IsP H4 (.ref q) z' → Nr (W + (i + 1 : Nat)) z' →
          ∃ v1' v2' v3' xs' ps', ([some (.ref a), some (.int m), some (.int W), some (.ref l), v1, some (.ref q), v3] : L2.St) = [some (.ref a), some (.int m), some (.int W), some (.ref l), v1', v2', v3'] ∧ Kp a H (upd H4 l (.lst (xs ++ [.ref q]))) ∧ IsSrc (upd H4 l (.lst (xs ++ [.ref q]))) a (B + 1 + 10 * (i + 1)) ∧ (upd H4 l (.lst (xs ++ [.ref q]))) l = some (.lst xs') ∧ Paired (IsP (upd H4 l (.lst (xs ++ [.ref q])))) xs' ps' ∧ ps'.length = i + 1 ∧ ∀ z ∈ ps', Nr (W + (i + 1 : Nat)) z := by
        intro H4 q z' v1 v3 k4 s4 hz4 nz4
        have t1 : TSm H4 (upd H4 l (.lst (xs ++ [.ref q]))) := TSm.lst (k4 _ _ la hl2)
        have t2 : TSm H2 H4 := s2.tsm k4
        refine ⟨_, _, _, _, ps ++ [z'], rfl, (kp2.trans k4).mut nl, s4.off (Ne.symm la), upd_same, ?_, by rw [List.length_append, lps]; rfl, fun w hw => ?_⟩
        · exact Paired.more (Paired.imp (fun x d q => tpl_P _ _ x d (t2.trans t1) q) hp2) (tpl_P _ _ _ _ t1 hz4)
        · rcases List.mem_append.mp hw with hw | hw
          · exact (hb2 w hw).mono (by omega)
          · rw [List.mem_singleton.mp hw]
            exact nz4
      have hl3 := k3 _ _ la hl2
      have hp3 : Paired (IsP H3) xs ps := Paired.imp (fun x d q => tpl_P _ _ x d (s2.tsm k3) q) hp2
      refine ⟨_, rfl, Nat.zero_le _, fun e ne => ?_⟩
      have hl4 := sm_new (o := .lst []) ne _ _ hl3
      have s4 := s3.same (sm_new (o := .lst []) ne)
      have k4 := k3.new (o := .lst []) ne
      have hp4 : Paired (IsP (upd H3 e (.lst []))) xs ps := Paired.imp (fun x d q => IsP.same (sm_new ne) q) hp3
      have hz4 := hz3.same (sm_new (o := .lst []) ne)
      refine ⟨encL ps, encL [], dp_L ⟨l, xs, rfl, hl4, hp4⟩, dp_L ⟨e, [], rfl, upd_same, .nil⟩, shaped_L _, shaped_L _, _, rfl, ?_⟩
      rw [eqv_L]
      by_cases emp : ps = []
      · refine ifC (by rw [decide_eq_true emp]; rfl) ?_
        show if false = true then _ else _
        refine iteF ?_
        exact ⟨_, rfl, .inl ⟨rfl, _, SqL.of hl4⟩, _, rfl, l, _, _, rfl, rfl, hl4, small_lt (by omega), fin _ _ z _ _ k4 (s4.mono (by omega)) hz4 (nz3.mono (by omega))⟩
      · refine ifB (by rw [decide_eq_false emp]; rfl) ?_
        refine ⟨_, rfl, a, 3, _, rfl, s4, by decide, by decide, by omega, fun H5 d5 k5 s5 d50 d51 => ?_⟩
        have k45 := k4.trans k5
        have hl5 := k5 _ _ la hl4
        have hp5 : Paired (IsP H5) xs ps := Paired.imp (fun x d q => tpl_P _ _ x d (s4.tsm k5) q) hp4
        have hz5 := tpl_P _ _ _ _ (s4.tsm k5) hz4
        refine ⟨_, _, rfl, rfl, _, rfl, ?_⟩
        refine ite2 (fun hc => ?_) (fun hc => ?_)
        · have i1 : 1 ≤ i := by
            cases i with
            | zero => exact absurd (List.length_eq_zero_iff.mp lps) emp
            | succ i => omega
          refine ⟨_, rfl, _, rfl, _, rfl, l, xs, rfl, .inl (SqL.of hl5), a, _, _, rfl, s5, by omega, by omega, by omega, fun H6 d6 k6 s6 d60 d61 => ?_⟩
          have hl6 := k6 _ _ la hl5
          have hp6 : Paired (IsP H6) xs ps := Paired.imp (fun x d q => tpl_P _ _ x d (s5.tsm k6) q) hp5
          obtain ⟨x, y, hx, ⟨b, rfl, hb⟩, hy⟩ := at_pick hp6 d60 d61
          refine ⟨l, _, d6, _, rfl, rfl, SqL.of hl6, hx, ?_⟩
          refine ⟨_, rfl, b, _, 0, _, rfl, rfl, SqT.of hb, rfl, _, rfl, a, 2, _, rfl, s6, by decide, by decide, by omega, fun H7 d7 k7 s7 d70 d71 => ?_⟩
          have hb7 := s6.tsm k7 _ _ hb
          refine ⟨_, _, rfl, rfl, _, rfl, b, _, 1, _, rfl, rfl, SqT.of hb7, rfl, _, rfl, a, 2, _, rfl, s7, by decide, by decide, by omega, fun H8 d8 k8 s8 d80 d81 => ?_⟩
          refine ⟨_, _, rfl, rfl, small_le (by decide : 2 ≤ 1000), fun q nq => ?_⟩
          have nb := hb2 y hy
          have kk := ((((k45.trans k6).trans k7).trans k8).new (o := .tup [.int (y.1 + d7), .int (y.2 + d8)]) nq)
          have hl9 := kk _ _ la hl2
          exact ⟨_, rfl, .inl ⟨rfl, _, SqL.of hl9⟩, _, rfl, l, _, _, rfl, rfl, hl9, small_lt (by omega), fin _ q (y.1 + d7, y.2 + d8) _ _ kk ((s8.same (sm_new nq)).mono (by omega)) ⟨q, rfl, upd_same⟩ (by unfold Nr at *; dsimp only; omega)⟩
        · exact ⟨_, rfl, .inl ⟨rfl, _, SqL.of hl5⟩, _, rfl, l, _, _, rfl, rfl, hl5, small_lt (by omega), fin _ _ z _ _ k45 (s5.mono (by omega)) hz5 (nz3.mono (by omega))⟩
    · rintro σ H2 ⟨v1, v2, v3, xs, ps, rfl, kp2, s2, hl2, hp2, lps, hb2⟩
      refine ⟨_, rfl, _, ps, rfl, ⟨l, xs, rfl, hl2, hp2⟩, by omega, fun s M ns hM hlM mem => ?_⟩
      have q2 : Same H2 (upd H2 s (SetPO P w s M)) := sm_new ns
      refine ⟨s, M, rfl, upd_same, fun q hq => (hM q hq).same q2, hlM, fun p xs2 np hp => ?_⟩
      have ec : canon (M.map (·.2)) = canon ps := canon_eq mem
      rw [ec] at hp
      have kk := (kp2.trans (Kp.of q2)).new (o := .lst xs2) np
      have ss := (s2.same q2).same (sm_new (o := .lst xs2) np)
      refine k _ p (canon ps) kk ((kp2.trans (Kp.of q2)).fresh (s2.same q2) np) (ss.mono (by omega)) (new_list tpl_P np hp) (asc_canon _) ?_ ?_
      · have := canon_le ps
        omega
      · intro z hz
        exact ((hb2 z (mem_canon.mp hz)).mono (by
          have : (10 : Int) ^ 40 = 10000000000000000000000000000000000000000 := by decide
          omega)).bd

def s__law_keeper : Sp := fun vs H Q _ => ∃ (a : Addr) (B : Nat), vs = [.ref a] ∧ IsSrc H a B ∧ B + 10 < 2 ^ 40 ∧ ∀ H' v t, Kp a H H' → IsSrc H' a (B + 4) → IsTn H' v t → Good t → Keep t → Q v H'
theorem sc__law_keeper : FnScope ["_law_source_here", "_law_q"] ["_law_source_here"] (defScope (top 74)) := ⟨rfl, rfl, rfl, by decide +kernel, rfl, by decide +kernel, by decide +kernel⟩
theorem c__law_keeper (D : Dm K mg "_law_keeper" (top 74)) (T : Fre mg) (h__law_draw : Cal P w K mg base 1 "_law_draw" s__law_draw [])  : Cal P w K mg base 2 "_law_keeper" s__law_keeper [] := by
  refine cal_of D sc__law_keeper (fun _ _ _ _ _ _ us hl => match us, hl with | [_], _ => rfl) (fun vs H Q E h => ?_) (fun f cdv A outer s H vs Q E hr h => ?_)
  · obtain ⟨_, _, rfl, _⟩ := h
    rfl
  · obtain ⟨a, B, rfl, src, hB, k⟩ := h
    refine ⟨_, (pss_cons (ps_set (i := 1) sc__law_keeper.nd rfl (Or.inl rfl) (pe_c h__law_draw hr (by decide) (by rfl) (pa_cons (pv 0) (pa_cons (pe_ix (r := rIxL K) ix_list (pe_lst (pa_cons pe_int (pa_cons pe_int (pa_cons (pe_op op_pow pe_int pe_int) pa_nil)))) (pe_c h__law_draw hr (by decide) (by rfl) (pa_cons (pv 0) (pa_cons pe_int pa_nil))) (fun _ _ => rfl)) pa_nil)))) (pss_one (ps_ret (pe_tup (pa_cons (pe_op op_add (pv 1) pe_int) (pa_cons (pe_ix (r := rIxL K) ix_list (pe_lst (pa_cons (pv 1) (pa_cons (pe_un un_neg (pv 1)) pa_nil))) (pe_c h__law_draw hr (by decide) (by rfl) (pa_cons (pv 0) (pa_cons pe_int pa_nil))) (fun _ _ => rfl)) (pa_cons (pe_c h__law_draw hr (by decide) (by rfl) (pa_cons (pv 0) (pa_cons pe_int pa_nil))) pa_nil))))))), ?_⟩
    have e14 : (10 : Int) ^ (14 : Int).toNat = 100000000000000 := by decide
    have e15 : (10 : Int) ^ 15 = 1000000000000000 := by decide
    have e200 : (2 : Int) ^ 200 = 1606938044258990275541962092341162602522202993782792835301376 := by decide
    obtain ⟨xs0, hx0⟩ := src.there
    refine ⟨_, rfl, _, _, rfl, rfl, ⟨by decide, by decide, by decide⟩, small_le (by decide : 3 ≤ 1000), fun l nl => ?_⟩
    have la : l ≠ a := Ne.symm (ne_of_none hx0 nl)
    refine ⟨_, rfl, a, 3, B, rfl, src.same (sm_new nl), by decide, by decide, by omega, fun H1 d1 k1 s1 l1 u1 => ?_⟩
    obtain ⟨c, hc, c1, c2⟩ := pickL (ns := [3, 9, (10 : Int) ^ (14 : Int).toNat]) (i := d1) (Pr := fun n => 1 ≤ n ∧ n ≤ 100000000000000) (by
      intro n hn
      simp only [List.mem_cons, List.not_mem_nil, or_false] at hn
      rcases hn with z | z | z <;> subst z <;> first | omega | (rw [e14]; omega)) l1 u1
    refine ⟨l, _, d1, _, rfl, rfl, SqL.of (k1 _ _ la upd_same), hc, ?_⟩
    have kp1 := ((Kp.refl a H).new (o := .lst [.int 3, .int 9, .int (10 ^ (14 : Int).toNat)]) nl).trans k1
    refine ⟨a, c, _, rfl, s1, c1, by omega, by omega, fun H2 q k2 s2 q0 q1 => ?_⟩
    refine ⟨_, rfl, _, _, rfl, rfl, _, rfl, _, rfl, _, rfl, small_le (by decide : 2 ≤ 1000), fun l2 nl2 => ?_⟩
    obtain ⟨xs2, hx2⟩ := s2.there
    have l2a : l2 ≠ a := Ne.symm (ne_of_none hx2 nl2)
    refine ⟨_, rfl, a, 2, _, rfl, s2.same (sm_new nl2), by decide, by decide, by omega, fun H3 d3 k3 s3 l3 u3 => ?_⟩
    obtain ⟨r, hr1, hr2⟩ := pickL (ns := [q, -q]) (i := d3) (Pr := fun n => n = q ∨ n = -q) (by
      intro n hn
      simp only [List.mem_cons, List.not_mem_nil, or_false] at hn
      exact hn) l3 u3
    refine ⟨l2, _, d3, _, rfl, rfl, SqL.of (k3 _ _ l2a upd_same), hr1, ?_⟩
    refine ⟨_, rfl, a, 4, _, rfl, s3, by decide, by decide, by omega, fun H4 d4 k4 s4 l4 u4 => ?_⟩
    refine ⟨small_le (by decide : 3 ≤ 1000), fun t nt => ?_⟩
    have g1 : Int.gcd (q + 1) q = 1 := by
      have z := gcd_near (q + 1)
      rw [show q + 1 - 1 = q by omega] at z
      exact z
    refine k _ _ (q + 1, r, d4) ((((kp1.trans k2).new nl2).trans (k3.trans k4)).new nt) (s4.same (sm_new nt)) ⟨t, rfl, upd_same⟩ ⟨?_, ?_, ?_, l4, by show d4 ≤ 3; omega, ?_, ?_⟩ ?_
    · show -(q + 1) < r
      omega
    · show r < q + 1
      omega
    · show q + 1 ≤ 10 ^ 15
      omega
    · show (q + 1 + r) % 2 = 1
      omega
    · show Int.gcd (q + 1) r = 1
      rcases hr2 with z | z <;> rw [z]
      · exact g1
      · rw [Int.gcd_neg]
        exact g1
    · show q + 1 = (r.natAbs : Int) + 1
      omega

end
end TP


set_option Elab.async false
set_option linter.all false
set_option maxRecDepth 100000
set_option maxHeartbeats 4000000
namespace TP
open PySem PySem.Spec PyProof.Rows L2
open C8 (Cal pe_c pe_gc)
section
variable {P : Program} {w : World} {K : PySem.W.Frag} {mg : Str → Option Value} {base : Heap}


/-! ### fresh canvases -/
structure DA where
  o : Addr
  td : Addr
  pd : Addr
  he : Addr
def DA.all (d : DA) : List Addr := [d.o, d.td, d.pd, d.he]
abbrev FD (H : Hp) (d : DA) (C : Addr) (ps : List Px) : Prop := Dk H d.o d.td d.pd C [] [] d.he ps
structure New (H : Hp) (d : DA) : Prop where
  o : H d.o = none
  td : H d.td = none
  pd : H d.pd = none
  he : H d.he = none
def Dj (c d : DA) : Prop := ∀ x ∈ c.all, ∀ y ∈ d.all, x ≠ y
theorem New.of {H H' : Hp} {d : DA} (n : New H' d) (e : Same H H') : New H d := ⟨free_of e n.o, free_of e n.td, free_of e n.pd, free_of e n.he⟩
theorem FD.tr {H : Hp} {d : DA} {C : Addr} {ps : List Px} (h : FD H d C ps) : ∀ x ∈ d.all, ∃ u, H x = some u := by
  intro x hx
  obtain ⟨dx, fi, ho⟩ := h.obj
  obtain ⟨a, xs, e, ha, _⟩ := h.here
  obtain ⟨ys, hy, _⟩ := h.told
  unfold DA.all at hx
  simp only [List.mem_cons, List.not_mem_nil, or_false] at hx
  rcases hx with rfl | rfl | rfl | rfl
  · exact ⟨_, ho⟩
  · exact ⟨_, hy⟩
  · exact ⟨_, h.past⟩
  · cases e
    exact ⟨_, ha⟩
theorem New.no {H : Hp} {d : DA} (n : New H d) : ∀ x ∈ d.all, H x = none := by
  intro x hx
  unfold DA.all at hx
  simp only [List.mem_cons, List.not_mem_nil, or_false] at hx
  rcases hx with rfl | rfl | rfl | rfl
  · exact n.o
  · exact n.td
  · exact n.pd
  · exact n.he
theorem FD.dj {H : Hp} {c d : DA} {C : Addr} {ps : List Px} (h : FD H c C ps) (n : New H d) : Dj c d := fun x hx y hy => by
  obtain ⟨u, hu⟩ := h.tr x hx
  exact ne_of_none hu (n.no y hy)
theorem sm_mv {H H1 H2 : Hp} {d : DA} (e : Same H H1) (n : New H d) (m : Mv d.o d.td d.pd H1 H2) : Same H H2 := fun b u hb => m b u (ne_of_none hb n.o) (ne_of_none hb n.td) (ne_of_none hb n.pd) (e b u hb)
theorem FD.off {H H' : Hp} {c d : DA} {C : Addr} {ps : List Px} (h : FD H c C ps) (j : Dj c d) (m : Mv d.o d.td d.pd H H') (ts : TSm H H') : FD H' c C ps := by
  have keep : ∀ x ∈ c.all, ∀ u, H x = some u → H' x = some u := fun x hx u hu => m x u (j x hx _ List.mem_cons_self) (j x hx _ (List.mem_cons_of_mem _ List.mem_cons_self)) (j x hx _ (List.mem_cons_of_mem _ (List.mem_cons_of_mem _ List.mem_cons_self))) hu
  obtain ⟨⟨dx, fi, ho⟩, ⟨a, xs, e, ha, hp⟩, few, ht, hpd, tp, ⟨ys, hy, hyp⟩, past, walks, olds, len, lo⟩ := h
  cases e
  refine ⟨⟨dx, fi, keep _ List.mem_cons_self _ ho⟩, ⟨c.he, xs, rfl, keep _ (by simp [DA.all]) _ ha, Paired.imp (fun x d q => tpl_P _ _ x d ts q) hp⟩, few, ht, hpd, tp, ⟨ys, keep _ (by simp [DA.all]) _ hy, Paired.imp (fun x d q => tpl_Dd _ _ x d ts q) hyp⟩, keep _ (by simp [DA.all]) _ past, fun b hb => (nomatch hb), fun q hq => (nomatch hq), rfl, by decide⟩
/-- a canvas made -/
theorem made {F : Kin} {C : Addr} {v : V} {ps : List Px} {H1 : Hp} {R : Addr → VK} (hC : F.fam C) (hv : Pic H1 v ps) (hs : Asc ps) (hl : ps.length ≤ 400) (k : ∀ H' d, Same H1 H' → New H1 d → FD H' d C ps → R d.o .non H') :
    ∀ x dx, H1 x = none → H1 dx = none → dx ≠ x → s_init F (.ref x :: ([v] ++ [])) (upd (upd H1 dx (.own x)) x (.ins C dx [])) (R x) C8.E0 := by
  intro x dx nx ndx ne
  have nx' : upd H1 dx (.own x) x = none := by
    rw [upd_ne (Ne.symm ne)]
    exact nx
  have e1 := (sm_new (o := .own x) ndx).trans (sm_new (o := .ins C dx []) nx')
  have dn : ∀ p, upd (upd H1 dx (.own x)) x (.ins C dx []) p = none → H1 p = none := fun p hp => free_of e1 hp
  refine ⟨x, C, dx, v, ps, rfl, hC, upd_same, Pic.same e1 hv, hs, hl, fun H' td pd he kx n1 n2 n3 hD => k H' ⟨x, td, pd, he⟩ (fun b u hb => ?_) ⟨nx, dn _ n1, dn _ n2, dn _ n3⟩ hD⟩
  exact kx b u (ne_of_none hb nx) (e1 b u hb)
theorem op_neK {X : Cx} {K : PySem.W.Frag} (hK : X.K = K) (hu : X.A.units + 64 < cLine) : OpR X (compareOp .NotEq) (rNeD K) := by
  subst hK
  exact op_neD hu
theorem op_eqK {X : Cx} {K : PySem.W.Frag} (hK : X.K = K) (hu : X.A.units + 64 < cLine) : OpR X (compareOp .Eq) (rEqD K) := by
  subst hK
  exact op_eqD hu
theorem pe_muT {P : Program} {w : World} {K : PySem.W.Frag} {mg : Str → Option Value} {base : Heap} {X : Cx} {CX : CXT} {k : Nat} {m : Str} {ES : L2.St → XK} {pos apos : Pos} {e o : Expr} {es : List Expr} {ta : TE} {t : TA} {pl : Sem Bool} (hP : X.prog = P) (hw : X.w = w) (hK : X.K = K) (hm : X.mg = mg) (hb : X.base = base) (he : PE X o ta) (hr : Room k X.A) (hx : ∀ σ, PassesAt CX X σ (ES σ)) (ha : PA X (e :: es) t)
    (hst : starEach (e :: es) X.env = (false, eval e X.env) :: starEach es X.env := by rfl) (hpl : (backTo pos (starEach es X.env)).any (·.1) = false := by rfl)
    (ht : eval (.Call (.Attribute o m apos) (e :: es) [] pos) X.env = (do let ov ← eval o X.env; standAt apos.atName; let (f, first) ← holding [ov] (getMethod ov m pl); callWith pos f first (backTo pos (starEach (e :: es) X.env)) (backToKw pos (keywordEach [] X.env))) := by rfl) :
    PE X (.Call (.Attribute o m apos) (e :: es) [] pos) (tMU (MU P w K mg base CX k m) m ES ta t) := by
  subst hP hw hK hm hb
  exact pe_mu he hr hx ha hst hpl ht
theorem ne_no {a b : V} (h : a = b) : (!decide (a = b)) = false := by
  rw [decide_eq_true h]
  rfl
theorem roomS {X : Cx} {k : Nat} {a : Addr} {pn : List (Addr × Obj)} (h : Room k X.A) : L2H.RoomH k (X.suite a pn).A := ⟨h.dp, h.un⟩
theorem dp_i {K : PySem.W.Frag} {H : Hp} {a b : Int} (h : a = b) : Dp K H (.int a) (.int b) := by
  rw [h]
  exact .int _
theorem shaped_T (a b c d : Int) (ps : List Px) : SeqAt.shaped (.list [.int a, encL ps, .int b, .int c, .int d]) = true := by
  have h1 := canLay_L ps
  have h2 := depth_L ps
  unfold SeqAt.shaped encL
  rw [Bool.and_eq_true]
  refine ⟨?_, decide_eq_true ?_⟩
  · simp [PyData.canLay0, PyData.canLayAll0, h1]
  · simp only [PyData.depth, PyData.depthAll]
    omega
theorem same_no {d : PyData} (h : SeqAt.shaped d = true) : (!PyData.eqv d d) = false := by
  rw [SeqAt.eqv_refl d (SeqAt.canLay_of_shaped h)]
  rfl
theorem inj_full {t : Tn} (g : Good t) (kp : Keep t) {ps : List Px} (h : Asc ps) : (canon (ps.map (img t))).length = ps.length := by
  rw [canon_nodup (map_nodup h.nodup fun z _ => back_img g kp z), List.length_map]
theorem lost1 (o : Addr) (n m : Nat) : lostS ([Deed.turn].zip (([(o, n)].map (·.2)).zip (([(o, n)].map (·.2)).drop 1 ++ [m]))) = (n : Int) - m := by
  show (0 : Int) + n - m = _
  omega
theorem lost2 (o o2 : Addr) (n m k : Nat) : lostS ([Deed.turn, Deed.turn].zip (([(o, n), (o2, m)].map (·.2)).zip (([(o, n), (o2, m)].map (·.2)).drop 1 ++ [k]))) = (n : Int) - k := by
  show (0 : Int) + n - m + m - k = _
  omega

def s__law_turned_right : Sp := fun vs H Q _ => ∃ (v v2 : V) (ps : List Px) (t : Tn), vs = [v, v2] ∧ Pic H v ps ∧ Asc ps ∧ ps.length ≤ 400 ∧ BdL 3000 ps ∧ IsTn H v2 t ∧ Good t ∧ Few t ps ∧ ∀ H', Same H H' → Q (.bl true) H'
theorem sc__law_turned_right : FnScope ["_law_dots_here", "_law_spin_here", "_law_found", "_law_far", "_law_desk", "_law_told", "_law_keeping", "e"] ["_law_dots_here", "_law_spin_here"] (defScope (top 75)) := ⟨rfl, rfl, rfl, by decide +kernel, rfl, by decide +kernel, by decide +kernel⟩
theorem c__law_turned_right (D : Dm K mg "_law_turned_right" (top 75)) (T : Fre mg) (h_keeps_all : Cal P w K mg base 5 "keeps_all" s_keeps_all []) (h_there_and_back : Cal P w K mg base 6 "there_and_back" s_there_and_back []) (h_back : Cal P w K mg base 5 "back" s_back []) (h_is_picture : Cal P w K mg base 4 "is_picture" s_is_picture []) (h_meetings_in : Cal P w K mg base 6 "meetings_in" s_meetings_in []) (h_lost_number : Cal P w K mg base 6 "lost_number" s_lost_number []) (h_turned_picture : Cal P w K mg base 6 "turned_picture" s_turned_picture []) {F : Kin} {L c1 c2 c3 : Addr} (hF : F.Ok K) (hL : LostOk P w K mg base L) (p2 : F.pln c2) (n2 : F.cnt c2) (g1 : F.kpg c1) (g3 : F.kpg c3) (hCk : Mkr P w K mg base 5 "KeepingCanvas" c1 (s_init F)) (hCn : Mkr P w K mg base 5 "CountingCanvas" c2 (s_init F)) (hCb : Mkr P w K mg base 5 "KeepingCountingCanvas" c3 (s_init F)) (h_turn : ∀ C, F.pln C → MU P w K mg base C8.CX0 7 "turn" C (s_turn F)) (h_turnK : ∀ C, F.kpg C → MU P w K mg base (L2.CX P w) 7 "turn" C (s_turnK F L)) (h_pix : ∀ C, F.fam C → PU P w K mg base C8.CX0 1 "pixels" C (s_pixels F)) (h_pixQ : ∀ C, F.fam C → PQ P w K mg base C8.CX0 1 "pixels" C (s_pixels F)) (h_lost : ∀ C, F.cnt C → PU P w K mg base C8.CX0 2 "lost" C (s_lost F)) (h_len : ∀ C, F.fam C → MU P w K mg base C8.CX0 1 "__len__" C (s_len F)) : Cal P w K mg base 12 "_law_turned_right" s__law_turned_right [] := by
  refine cal_of D sc__law_turned_right (fun _ _ _ _ _ _ us hl => match us, hl with | [_, _], _ => rfl) (fun vs H Q E h => ?_) (fun f cdv A outer s H vs Q E hr h => ?_)
  · obtain ⟨_, _, _, _, rfl, _⟩ := h
    rfl
  · obtain ⟨v, v2, ps, t, rfl, hv, hs, hl, hb, hv2, g, few, kk⟩ := h
    refine ⟨_, (pss_cons (ps_par (i := 2) (j := 3) (by rfl) sc__law_turned_right.nd rfl rfl (by decide) rfl rfl (pa_cons (pe_c h_turned_picture hr (by decide) (by rfl) (pa_cons (pv 1) (pa_cons (pv 0) pa_nil))) (pa_cons (pe_c h_lost_number hr (by decide) (by rfl) (pa_cons (pv 1) (pa_cons (pv 0) pa_nil))) pa_nil)) (by rfl)) (pss_cons (ps_set (i := 4) sc__law_turned_right.nd rfl (Or.inl rfl) (pe_mk hCn hr (by decide) (by rfl) (pa_cons (pv 0) pa_nil))) (pss_cons (ps_set (i := 5) sc__law_turned_right.nd rfl (Or.inl rfl) (pe_lst (pa_cons (pe_mu (CX := C8.CX0) (k := 7) (ES := fun _ => C8.E0) (pv 4) (hr.mono (by decide)) (fun _ => passN) (pa_cons (pv 1) pa_nil)) (pa_cons (pe_pu (k := 1) (pv 4) (hr.mono (by decide))) (pa_cons (pe_pu (k := 2) (pv 4) (hr.mono (by decide))) (pa_cons (pe_op op_sub (pe_callB call_len_seq (by rfl) T.len PySem.boot_len (pa_cons (pv 0) pa_nil)) (pe_callB (call_lenU (k := 1) (hr.mono (by decide))) (by rfl) T.len PySem.boot_len (pa_cons (pv 4) pa_nil))) (pa_cons (pe_callB call_len_seq (by rfl) T.len PySem.boot_len (pa_cons (pe_c h_meetings_in hr (by decide) (by rfl) (pa_cons (pv 1) (pa_cons (pv 0) pa_nil))) pa_nil)) pa_nil))))))) (pss_cons (ps_if (PW.pt (pw_or (pt_cmpR (op_neD hr.units) (pv 5) (pe_lst (pa_cons (pe_callB call_len_seq (by rfl) T.len PySem.boot_len (pa_cons (pv 2) pa_nil)) (pa_cons (pv 2) (pa_cons (pv 3) (pa_cons (pv 3) (pa_cons (pv 3) pa_nil)))))) (nomark _)) (pw_or1 (pt_not (pt_val (pe_c h_is_picture hr (by decide) (by rfl) (pa_cons (pe_pu (k := 1) (pv 4) (hr.mono (by decide))) pa_nil))))))) (pss_one (ps_ret pe_bl)) pss_nil) (pss_cons (ps_expr (pe_mu (CX := C8.CX0) (k := 7) (ES := fun _ => C8.E0) (pv 4) (hr.mono (by decide)) (fun _ => passN) (pa_cons (pe_c h_back hr (by decide) (by rfl) (pa_cons (pv 1) pa_nil)) pa_nil))) (pss_cons (ps_if (PW.pt (pw_or (pt_cmpR (op_neD hr.units) (pe_pu (k := 1) (pv 4) (hr.mono (by decide))) (pe_c h_there_and_back hr (by decide) (by rfl) (pa_cons (pv 1) (pa_cons (pv 0) pa_nil))) (nomark _)) (pw_or1 (pt_cmpR op_ne (pe_pu (k := 2) (pv 4) (hr.mono (by decide))) (pe_op op_sub (pe_callB call_len_seq (by rfl) T.len PySem.boot_len (pa_cons (pv 0) pa_nil)) (pe_callB (call_lenU (k := 1) (hr.mono (by decide))) (by rfl) T.len PySem.boot_len (pa_cons (pv 4) pa_nil))) (nomark _))))) (pss_one (ps_ret pe_bl)) pss_nil) (pss_cons (ps_for PassesOwn.never rfl (pi_tup (pe_tup (pa_cons (pe_mk hCk hr (by decide) (by rfl) (pa_cons (pv 0) pa_nil)) (pa_cons (pe_mk hCb hr (by decide) (by rfl) (pa_cons (pv 0) pa_nil)) pa_nil)))) (pg_name (i := 6) sc__law_turned_right.nd rfl (Or.inl rfl)) (pss_cons (ps_set (i := 5) sc__law_turned_right.nd rfl (Or.inl rfl) (pe_un un_neg pe_int)) (pss_cons (ps_try_as (i := 7) rfl rfl sc__law_turned_right.nd rfl rfl ⟨by rfl, by decide, .inl hL.at_⟩ takes0 (fun W pn xe tk _ => (pss_one (ps_set (i := 5) sc__law_turned_right.nd rfl (Or.inl rfl) (pe_muT (P := P) (w := w) (K := K) (mg := mg) (base := base) (CX := L2.CX P w) (k := 7) (ES := WE W) rfl rfl rfl rfl rfl (pv 6) (hr.mono (by decide)) (fun σ => passAt tk σ) (pa_cons (pv 1) pa_nil))))) (fun a oe cls d pn hz hf => (pss_one (ps_if (PW.pt (pw_or (pt_cmpR op_ne (pe_xf hL.xf hL.no hz hf (pv 7)) (pv 3) (nomark _)) (pw_or1 (pt_cmpR (op_neK (K := K) rfl hr.units) (pe_pq (k := 1) (pv 6) (roomS (hr.mono (by decide)))) (pv 0) (nomark _))))) (pss_one (ps_ret pe_bl)) pss_nil)))) (pss_one (ps_if (PW.pt (pw_or (pt_cmpR op_ne (pe_cmpR op_eq (pv 5) (pe_un un_neg pe_int) (nomark _)) (pe_cmpR op_gt (pv 3) pe_int (nomark _)) (nomark _)) (pw_or1 (PW.pt (pw_and (pt_val (pe_c h_keeps_all hr (by decide) (by rfl) (pa_cons (pv 1) pa_nil))) (pw_and1 (PW.pt (pw_or (pt_cmpR op_gt (pv 3) pe_int (nomark _)) (pw_or1 (pt_cmpR (op_neD hr.units) (pe_pu (k := 1) (pv 6) (hr.mono (by decide))) (pv 2) (nomark _))))))))))) (pss_one (ps_ret pe_bl)) pss_nil))))) (pss_one (ps_ret pe_bl))))))))), ?_⟩
    have f2 := hF.cnt _ n2
    have bd5 : BdL 5000 ps := hb.mono (by omega)
    refine ⟨_, rfl, _, rfl, v2, v, t, ps, rfl, hv2, g, hv, hs, hl, bd5, few, fun H1 fn e1 nf1 hfn => ?_⟩
    refine ⟨_, rfl, _, rfl, v2, v, t, ps, rfl, hv2.same e1, g, Pic.same e1 hv, hs, hl, bd5, few, fun HB eB => ?_⟩
    refine ⟨_, _, rfl, ?_⟩
    have sB := e1.trans eB
    have hvB := Pic.same sB hv
    have hfB := Pic.same eB hfn
    have tB := hv2.same sB
    have cl : (canon (ps.map (img t))).length ≤ ps.length := by
      have := canon_le (ps.map (img t))
      rwa [List.length_map] at this
    obtain ⟨va, vx, rfl, hva, hvp⟩ := hvB
    obtain ⟨fa, fx, ef, hfa, hfp⟩ := hfB
    cases ef
    have lv : vx.length = ps.length := hvp.length
    have lf : fx.length = (canon (ps.map (img t))).length := hfp.length
    refine ⟨_, rfl, made f2 ⟨va, vx, rfl, hva, hvp⟩ hs hl fun H2 d s2 nd D2 => ⟨rfl, ?_⟩⟩
    obtain ⟨dx, fi, ho⟩ := D2.obj
    -- told
    refine ⟨_, rfl, d.o, c2, _, _, _, rfl, ho, rfl, h_turn c2 p2, _, rfl, d.o, d.td, d.pd, c2, [], [], d.he, ps, v2, t, rfl, p2, D2, by decide, tB.same s2, g, hs, bd5, few, fun H3 f3 m3 D3 => ?_⟩
    have s3 := sm_mv s2 nd m3
    obtain ⟨dx3, fi3, ho3⟩ := D3.obj
    refine ⟨_, rfl, d.o, c2, _, _, _, rfl, ho3, h_pix c2 f2, d.o, d.td, d.pd, c2, _, _, f3, _, rfl, f2, D3, fun H4 p4 e4 np4 hp4 => ?_⟩
    have s4 := s3.trans e4
    have D4 := D3.same e4
    refine ⟨_, rfl, d.o, c2, _, _, _, rfl, e4 _ _ ho3, h_lost c2 n2, d.o, d.td, d.pd, c2, _, _, f3, _, rfl, n2, D4, Nat.le_refl 1, fun H5 e5 => ?_⟩
    have s5 := s4.trans e5
    have D5 := D4.same e5
    have ho5 := e5 _ _ (e4 _ _ ho3)
    refine ⟨_, rfl, va, vx, rfl, .inl (SqL.of (s5 _ _ hva)), _, rfl, d.o, c2, _, _, _, rfl, ho5, h_len c2 f2, d.o, d.td, d.pd, c2, _, _, f3, _, rfl, f2, D5, _, rfl, by have := D5.few; omega, _, _, rfl, rfl, ?_⟩
    refine ⟨_, rfl, _, rfl, v2, _, t, ps, rfl, tB.same s5, g, Pic.same s5 ⟨va, vx, rfl, hva, hvp⟩, hs, hl, bd5, fun H6 p6 x6 e6 np6 h6 l6 => ⟨p6, x6, rfl, .inl (SqL.of h6), ?_⟩⟩
    have s6 := s5.trans e6
    refine ⟨small_le (by decide : 5 ≤ 1000), fun l nl => ?_⟩
    have hp6 := Pic.same (e5.trans e6) hp4
    have s7 : ∀ o, Same HB (upd H6 l o) := fun o => s6.trans (sm_new nl)
    refine ⟨_, rfl, _, rfl, fn, fx, rfl, .inl (SqL.of (s7 _ _ _ hfa)), _, rfl, _, rfl, _, rfl, _, rfl, small_le (by decide : 5 ≤ 1000), fun l2 nl2 => ?_⟩
    have s8 : ∀ o2, Same H6 (upd (upd H6 l _) l2 o2) := fun o2 => (sm_new nl).trans (sm_new nl2)
    refine ⟨.list [.int ((canon (ps.map (img t))).length : Nat), encL (canon (ps.map (img t))), .int ((ps.length : Int) - ((canon (ps.map (img t))).length : Nat)), .int ((ps.length : Int) - ((canon (ps.map (img t))).length : Nat)), .int ((ps.length : Int) - ((canon (ps.map (img t))).length : Nat))],
      .list [.int ((canon (ps.map (img t))).length : Nat), encL (canon (ps.map (img t))), .int ((ps.length : Int) - ((canon (ps.map (img t))).length : Nat)), .int ((ps.length : Int) - ((canon (ps.map (img t))).length : Nat)), .int ((ps.length : Int) - ((canon (ps.map (img t))).length : Nat))],
      .lst (SqL.of (sm_new nl2 _ _ upd_same)) (.cons (dp_i rfl) (.cons (dp_L (Pic.same (s8 _) hp6)) (.cons (dp_i (lost1 _ _ _)) (.cons (dp_i (by rw [lv])) (.cons (dp_i (by omega)) .nil))))),
      .lst (SqL.of upd_same) (.cons (dp_i (by rw [lf])) (.cons (dp_L (Pic.same (s6.trans (s8 _)) ⟨fn, fx, rfl, hfa, hfp⟩)) (.cons (dp_i rfl) (.cons (dp_i rfl) (.cons (dp_i rfl) .nil))))), shaped_T _ _ _ _ _, shaped_T _ _ _ _ _, _, rfl, ?_⟩
    refine ifC (same_no (shaped_T _ _ _ _ _)) ?_
    have D8 : ∀ o2, Dk (upd (upd H6 l _) l2 o2) d.o d.td d.pd c2 ([] ++ [.turn]) ([] ++ [(d.he, ps.length)]) f3 (canon (ps.map (img t))) := fun o2 => (D5.same e6).same (s8 o2)
    have ho8 : ∀ o2, (upd (upd H6 l _) l2 o2) d.o = _ := fun o2 => s8 o2 _ _ (e6 _ _ ho5)
    refine ⟨_, rfl, d.o, c2, _, _, _, rfl, ho8 _, h_pix c2 f2, d.o, d.td, d.pd, c2, _, _, f3, _, rfl, f2, D8 _, fun H9 p9 e9 np9 hp9 => ⟨_, _, rfl, hp9, asc_canon _, by omega, fun H10 e10 => ⟨true, rfl, ?_⟩⟩⟩
    refine iteF ?_
    have s10 := (s6.trans (s8 _)).trans (e9.trans e10)
    have D10 := ((D8 _).same e9).same e10
    have ho10 := e10 _ _ (e9 _ _ (ho8 _))
    refine ⟨_, rfl, d.o, c2, _, _, _, rfl, ho10, rfl, h_turn c2 p2, _, rfl, v2, t, rfl, tB.same s10, g, fun H11 q11 e11 hq11 => ?_⟩
    have D11 := D10.same e11
    have s11 := s10.trans e11
    have few2 : Few (backT t) (canon (ps.map (img t))) := canon_few few
    refine ⟨d.o, d.td, d.pd, c2, _, _, f3, _, _, backT t, rfl, p2, D11, by show 1 ≤ 5; decide, ⟨q11, rfl, hq11⟩, g.back, asc_canon _, (hb.imgs g).mono (by omega), few2, fun H12 f12 m12 D12 => ?_⟩
    have s12 := sm_mv s11 nd m12
    obtain ⟨dx12, fi12, ho12⟩ := D12.obj
    refine ⟨_, rfl, d.o, c2, _, _, _, rfl, ho12, h_pix c2 f2, d.o, d.td, d.pd, c2, _, _, f12, _, rfl, f2, D12, fun H13 p13 e13 np13 hp13 => ?_⟩
    have s13 := s12.trans e13
    refine ⟨_, rfl, _, rfl, v2, _, t, ps, rfl, tB.same s13, g, Pic.same s13 ⟨va, vx, rfl, hva, hvp⟩, hs, hl, hb.mono (by omega), few, fun H14 p14 e14 np14 hp14 => ?_⟩
    refine ⟨_, _, dp_L (Pic.same e14 hp13), dp_L hp14, shaped_L _, shaped_L _, _, rfl, ?_⟩
    refine ifC (same_no (shaped_L _)) ?_
    have D14 := (D12.same e13).same e14
    have s14 := s13.trans e14
    have ho14 := e14 _ _ (e13 _ _ ho12)
    refine ⟨_, rfl, d.o, c2, _, _, _, rfl, ho14, h_lost c2 n2, d.o, d.td, d.pd, c2, _, _, f12, _, rfl, n2, D14, by show 1 ≤ 2; decide, fun H15 e15 => ?_⟩
    have s15 := s14.trans e15
    have ho15 := e15 _ _ ho14
    refine ⟨_, rfl, va, vx, rfl, .inl (SqL.of (s15 _ _ hva)), _, rfl, d.o, c2, _, _, _, rfl, ho15, h_len c2 f2, d.o, d.td, d.pd, c2, _, _, f12, _, rfl, f2, D14.same e15, _, rfl, by have := D12.few; omega, _, _, rfl, rfl, rfl, _, rfl, ?_⟩
    refine ifC (ne_no (congrArg V.int ((lost2 _ _ _ _ _).trans (by rw [lv])))) ?_
    -- the two that keep
    have hv15 : Pic H15 (.ref va) ps := Pic.same s15 ⟨va, vx, rfl, hva, hvp⟩
    have k1f := hF.kpg _ g1
    have k3f := hF.kpg _ g3
    refine ⟨_, rfl, made k1f hv15 hs hl fun H16 k1 s16 n16 D16 => ⟨rfl, _, rfl, made k3f (Pic.same s16 hv15) hs hl fun H17 k2 s17 n17 D17 => ⟨rfl, small_le (by decide : 2 ≤ 1000), fun tt ntt => ?_⟩⟩⟩
    have e17 := sm_new (o := .tup [.ref k1.o, .ref k2.o]) ntt
    have D18a := (D16.same s17).same e17
    have D18b := D17.same e17
    have s18 := ((s15.trans s16).trans s17).trans e17
    have na : New HB k1 := n16.of s15
    have nb : New HB k2 := n17.of (s15.trans s16)
    have dj : Dj k1 k2 := FD.dj D16 n17
    have ktt : ∀ q, (q = (k1, c1) ∨ q = (k2, c3)) → ∀ x ∈ q.1.all, x ≠ tt := fun q hq x hx => by
      rcases hq with rfl | rfl
      · obtain ⟨u, hu⟩ := FD.tr (D16.same s17) x hx
        exact ne_of_none hu ntt
      · obtain ⟨u, hu⟩ := FD.tr D17 x hx
        exact ne_of_none hu ntt
    refine ⟨tt, rfl, ⟨_, SqT.of upd_same⟩, for_tup (xs := [(k1, c1), (k2, c3)].map fun q => V.ref q.1.o) (fun i σ H' => ∃ v5 v6, σ = [some (.ref va), some v2, some (.ref fn), some (.int ((ps.length : Int) - ((canon (ps.map (img t))).length : Nat))), some (.ref d.o), v5, v6, none] ∧ Same HB H' ∧ H' tt = some (.tup [.ref k1.o, .ref k2.o]) ∧ ∀ j q, i ≤ j → [(k1, c1), (k2, c3)][j]? = some q → FD H' q.1 q.2 ps)
      ⟨_, none, rfl, s18, upd_same, fun j q _ hq => ?_⟩ (fun i σ H' _ ⟨_, _, _, _, e, _⟩ => SqT.of (xs := [.ref k1.o, .ref k2.o]) e) ?_ ?_⟩
    · match j, hq with
      | 0, hq => cases hq; exact D18a
      | 1, hq => cases hq; exact D18b
    · rintro i x σ Ha hx ⟨v5, v6, rfl, sa, hta, hrest⟩
      rw [List.getElem?_map] at hx
      obtain ⟨q, hq, rfl⟩ := Option.map_eq_some_iff.mp hx
      have qm : q = (k1, c1) ∨ q = (k2, c3) := by
        have := List.mem_of_getElem? hq
        simpa using this
      have qk : F.kpg q.2 := by rcases qm with rfl | rfl <;> assumption
      have qn : New HB q.1 := by rcases qm with rfl | rfl <;> assumption
      have qf := hF.kpg _ qk
      have Dq := hrest i q (Nat.le_refl _) hq
      obtain ⟨dxq, fiq, hoq⟩ := Dq.obj
      have later : ∀ H', Mv q.1.o q.1.td q.1.pd Ha H' → H' tt = some (.tup [.ref k1.o, .ref k2.o]) ∧ ∀ j r, i + 1 ≤ j → [(k1, c1), (k2, c3)][j]? = some r → FD H' r.1 r.2 ps := fun H' m => by
        refine ⟨m _ _ (fun z => ktt q qm _ List.mem_cons_self z.symm) (fun z => ktt q qm _ (List.mem_cons_of_mem _ List.mem_cons_self) z.symm) (fun z => ktt q qm _ (List.mem_cons_of_mem _ (List.mem_cons_of_mem _ List.mem_cons_self)) z.symm) hta, fun j r hj hr => ?_⟩
        refine FD.off (hrest j r (by omega) hr) ?_ m (Dq.tsm m)
        match i, j, hq, hr with
        | 0, 1, hq, hr => cases hq; cases hr; exact fun x hx y hy z => dj y hy x hx z.symm
        | 0, 0, _, _ => omega
        | 1, 1, _, _ => omega
        | 1, 0, _, _ => omega
      refine ⟨_, rfl, ?_⟩
      refine ⟨_, rfl, q.1.o, q.2, _, _, _, rfl, hoq, rfl, h_turnK q.2 qk, _, rfl, q.1.o, q.1.td, q.1.pd, q.2, [], [], q.1.he, ps, v2, t, rfl, qk, Dq, by decide, tB.same sa, g, hs, bd5, few, fun le Hb fb mb Db => ?_, fun lt dd Hb ndd eb hxb => ?_⟩
      · have sb := sm_mv sa qn mb
        obtain ⟨l1, l2⟩ := later Hb mb
        have eq : (canon (ps.map (img t))).length = ps.length := by omega
        obtain ⟨dxb, fib, hob⟩ := Db.obj
        refine ⟨_, rfl, _, rfl, rfl, _, rfl, _, _, rfl, rfl, rfl, _, rfl, ?_⟩
        refine ifC ?_ ?_
        · have z1 : decide (V.int ((canon (ps.map (img t))).length : Nat) = V.int (-1)) = false := decide_eq_false fun z => by
            have := V.int.inj z
            omega
          have z2 : decide ((ps.length : Int) - ((canon (ps.map (img t))).length : Nat) > 0) = false := decide_eq_false (by omega)
          show (!decide (V.bl (decide (V.int ((canon (ps.map (img t))).length : Nat) = V.int (-1))) = V.bl (decide ((ps.length : Int) - ((canon (ps.map (img t))).length : Nat) > 0)))) = false
          rw [z1, z2]
          rfl
        refine ⟨_, rfl, v2, t, rfl, tB.same sb, g, fun Hc ec => ⟨_, rfl, ?_⟩⟩
        have sc' := sb.trans ec
        by_cases kp : Keep t
        · refine ifD kp ?_
          refine ⟨_, rfl, _, _, rfl, rfl, _, rfl, ?_⟩
          refine ifN (by omega) ?_
          refine ⟨_, rfl, q.1.o, q.2, _, _, _, rfl, ec _ _ hob, h_pix q.2 qf, q.1.o, q.1.td, q.1.pd, q.2, _, _, fb, _, rfl, qf, Db.same ec, fun Hd pd ed npd hpd => ?_⟩
          refine ⟨_, rfl, _, _, dp_L hpd, dp_L (Pic.same (sc'.trans ed) ⟨fn, fx, rfl, hfa, hfp⟩), shaped_L _, shaped_L _, _, rfl, ?_⟩
          refine ifC (same_no (shaped_L _)) ?_
          exact ⟨_, _, rfl, sc'.trans ed, ed _ _ (ec _ _ l1), fun j r hj hr => ((l2 j r hj hr).same ec).same ed⟩
        · refine ifN kp ?_
          exact iteF ⟨_, _, rfl, sc', ec _ _ l1, fun j r hj hr => (l2 j r hj hr).same ec⟩
      · refine ⟨true, hL.exm, fun _ ax hax => ?_, fun z => Bool.noConfusion z⟩
        have sb := sa.trans eb
        have mb : Mv q.1.o q.1.td q.1.pd Ha Hb := Mv.of eb
        obtain ⟨l1, l2⟩ := later Hb mb
        have Db := Dq.same eb
        refine ⟨_, rfl, rfl, rfl, dd, _, _, rfl, hxb, rfl, _, rfl, rfl, _, rfl, ?_⟩
        refine ifC (by simp) ?_
        refine ⟨_, rfl, q.1.o, q.2, _, _, _, rfl, eb _ _ hoq, h_pixQ q.2 qf, q.1.o, q.1.td, q.1.pd, q.2, _, _, q.1.he, _, rfl, qf, Db, fun Hc pc ec npc hpc => ?_⟩
        refine ⟨_, rfl, _, _, dp_L hpc, dp_L (Pic.same (sb.trans ec) ⟨va, vx, rfl, hva, hvp⟩), shaped_L _, shaped_L _, _, rfl, ?_⟩
        refine ifC (same_no (shaped_L _)) ?_
        refine ⟨_, rfl, _, rfl, rfl, _, rfl, _, _, rfl, rfl, rfl, _, rfl, ?_⟩
        have sc' := sb.trans ec
        refine ifC ?_ ?_
        · have z2 : decide ((ps.length : Int) - ((canon (ps.map (img t))).length : Nat) > 0) = true := decide_eq_true (by omega)
          show (!decide (V.bl (decide (V.int (-1) = V.int (-1))) = V.bl (decide ((ps.length : Int) - ((canon (ps.map (img t))).length : Nat) > 0)))) = false
          rw [z2]
          rfl
        refine ⟨_, rfl, v2, t, rfl, tB.same sc', g, fun Hd ed => ⟨_, rfl, ?_⟩⟩
        have nk : ¬ Keep t := fun kp => by
          have := inj_full g kp hs
          omega
        refine ifN nk ?_
        exact iteF ⟨_, _, rfl, sc'.trans ed, ed _ _ (ec _ _ l1), fun j r hj hr => ((l2 j r hj hr).same ec).same ed⟩
    · rintro σ Ha ⟨v5, v6, rfl, sa, hta, hrest⟩
      exact kk Ha (sB.trans sa)

end
end TP


set_option Elab.async false
set_option linter.all false
set_option maxRecDepth 100000
set_option maxHeartbeats 4000000
namespace TP
open PySem PySem.Spec PyProof.Rows L2
open C8 (Cal pe_c pe_gc)
section
variable {P : Program} {w : World} {K : PySem.W.Frag} {mg : Str → Option Value} {base : Heap}


/-! ### several fresh canvases -/
structure Desks (H0 H : Hp) (L : List (DA × Addr)) (ps : List Px) : Prop where
  dj : L.Pairwise fun c d => Dj d.1 c.1
  fd : ∀ q ∈ L, FD H q.1 q.2 ps
  nw : ∀ q ∈ L, New H0 q.1
  sm : Same H0 H
theorem Desks.nil {H0 H : Hp} {ps : List Px} (s : Same H0 H) : Desks H0 H [] ps := ⟨.nil, fun _ h => (nomatch h), fun _ h => (nomatch h), s⟩
theorem Desks.add {H0 H H' : Hp} {L : List (DA × Addr)} {ps : List Px} {d : DA} {C : Addr} (h : Desks H0 H L ps) (s : Same H H') (n : New H d) (D : FD H' d C ps) : Desks H0 H' (L ++ [(d, C)]) ps := by
  refine ⟨List.pairwise_append.mpr ⟨h.dj, List.pairwise_singleton _ _, fun q hq r hr => ?_⟩, fun q hq => ?_, fun q hq => ?_, h.sm.trans s⟩
  · rw [List.mem_singleton.mp hr]
    exact fun x hx y hy z => FD.dj (h.fd q hq) n y hy x hx z.symm
  · rcases List.mem_append.mp hq with hq | hq
    · exact (h.fd q hq).same s
    · rw [List.mem_singleton.mp hq]
      exact D
  · rcases List.mem_append.mp hq with hq | hq
    · exact h.nw q hq
    · rw [List.mem_singleton.mp hq]
      exact n.of h.sm
theorem Desks.same {H0 H H' : Hp} {L : List (DA × Addr)} {ps : List Px} (h : Desks H0 H L ps) (s : Same H H') : Desks H0 H' L ps := ⟨h.dj, fun q hq => (h.fd q hq).same s, h.nw, h.sm.trans s⟩
theorem Desks.apart {H0 H : Hp} {L : List (DA × Addr)} {ps : List Px} (h : Desks H0 H L ps) {i j : Nat} {q r : DA × Addr} (hq : L[i]? = some q) (hr : L[j]? = some r) (l : i < j) : Dj r.1 q.1 := by
  obtain ⟨hi, rfl⟩ := List.getElem?_eq_some_iff.mp hq
  obtain ⟨hj, rfl⟩ := List.getElem?_eq_some_iff.mp hr
  exact List.pairwise_iff_getElem.mp h.dj i j hi hj l
theorem walks_len {ts : List Tn} (g : GoodW ts) {ps : List Px} (h : Asc ps) : (walksT ts ps).length = ps.length := by
  unfold walksT
  rw [canon_nodup (map_nodup h.nodup fun z _ => walk_back g z), List.length_map]
theorem walks_back {ts : List Tn} (g : GoodW ts) {ps : List Px} (h : Asc ps) : walksT (backW ts) (walksT ts ps) = ps := canon_back h fun z _ => walk_back g z
theorem walks_bd {ts : List Tn} (g : GoodW ts) {n : Nat} {ps : List Px} (h : BdL n ps) : BdL (n + 2 * ts.length) (walksT ts ps) := fun z hz => by
  obtain ⟨y, hy, rfl⟩ := List.mem_map.mp (mem_canon.mp hz)
  have q := walk_bd g (h y hy) ts.length
  rwa [List.take_length] at q
theorem shears_len (t : Tn) (b : Bool) {ps : List Px} (h : Asc ps) : (shearsT t b ps).length = ps.length := by
  unfold shearsT
  rw [canon_nodup (map_nodup h.nodup fun z _ => unshear_shear t b z), List.length_map]
theorem shears_bd {t : Tn} (g : Good t) (b : Bool) {n : Nat} {ps : List Px} (h : BdL n ps) : BdL (n + 6) (shearsT t b ps) := fun z hz => by
  obtain ⟨y, hy, rfl⟩ := List.mem_map.mp (mem_canon.mp hz)
  have q := (after_bd (chain_good g b) (h y hy) 3).1
  rw [List.take_of_length_le (Nat.le_of_eq (chain_len t b))] at q
  exact rot_bd _ q
theorem shears_back (t : Tn) (b : Bool) {ps : List Px} (h : Asc ps) : ((shearsT t b ps).map (unshearT t b)).mergeSort (PySem.W.dataLe false encP) = ps := by
  rw [sort_canon]
  · exact canon_back h fun z _ => unshear_shear t b z
  · refine map_nodup (g := shearT t b) (asc_canon _).nodup fun z hz => ?_
    obtain ⟨y, _, rfl⟩ := List.mem_map.mp (mem_canon.mp hz)
    rw [unshear_shear]
theorem dp_b {K : PySem.W.Frag} {H : Hp} {a b : Bool} (h : a = b) : Dp K H (.bl a) (.bool b) := by
  rw [h]
  exact .bl _
theorem Dk.nl {H : Hp} {o td pd C he l : Addr} {ds : List Deed} {pa : List (Addr × Nat)} {ps : List Px} (h : Dk H o td pd C ds pa he ps) (n : H l = none) : l ≠ o ∧ l ≠ td ∧ l ≠ pd := by
  obtain ⟨dx, fi, ho⟩ := h.obj
  obtain ⟨xs, ht, _⟩ := h.told
  exact ⟨Ne.symm (ne_of_none ho n), Ne.symm (ne_of_none ht n), Ne.symm (ne_of_none h.past n)⟩
theorem yes_L (ps : List Px) : PyData.eqv (encL ps) (encL ps) = true := SeqAt.eqv_refl _ (SeqAt.canLay_of_shaped (shaped_L ps))
theorem shaped_W (n : Int) : SeqAt.shaped (.list [.int n, .bool true, .int n, .bool true, .int n, .bool true]) = true := by
  unfold SeqAt.shaped
  simp [PyData.canLay0, PyData.canLayAll0, PyData.depth, PyData.depthAll]
theorem GoodW.rev_len (ts : List Tn) : (backW ts).length = ts.length := by
  unfold backW
  rw [List.length_map, List.length_reverse]

def s__law_walked_right : Sp := fun vs H Q _ => ∃ (a va wa : Addr) (v2 : V) (ps : List Px) (t : Tn) (ts : List Tn) (B : Nat), vs = [.ref a, .ref va, v2, .ref wa] ∧ IsSrc H a B ∧ B + 10 < 2 ^ 40 ∧ va ≠ a ∧ wa ≠ a ∧ Pic H (.ref va) ps ∧ Asc ps ∧ ps.length ≤ 400 ∧ BdL 200 ps ∧ IsTn H v2 t ∧ Good t ∧ Way H (.ref wa) ts ∧ GoodW ts ∧ ts.length ≤ 120 ∧ ∀ H', Kp a H H' → IsSrc H' a (B + 1) → Q (.bl true) H'
theorem sc__law_walked_right : FnScope ["_law_source_here", "_law_dots_here", "_law_spin_here", "_law_path", "_law_sort", "_law_desk", "_law_told", "_law_one", "_law_dot_here"] ["_law_source_here", "_law_dots_here", "_law_spin_here", "_law_path"] (defScope (top 76)) := ⟨rfl, rfl, rfl, by decide +kernel, rfl, by decide +kernel, by decide +kernel⟩
theorem c__law_walked_right (D : Dm K mg "_law_walked_right" (top 76)) (T : Fre mg) (h_unsheared : Cal P w K mg base 6 "unsheared" s_unsheared []) (h_sheared_picture : Cal P w K mg base 7 "sheared_picture" s_sheared_picture []) (h_back : Cal P w K mg base 5 "back" s_back []) (h_walked_picture : Cal P w K mg base 7 "walked_picture" s_walked_picture []) (h__law_draw : Cal P w K mg base 1 "_law_draw" s__law_draw []) {F : Kin} {c0 c1 c2 c3 : Addr} (hF : F.Ok K) (f0 : F.fam c0) (f1 : F.fam c1) (f2 : F.fam c2) (f3 : F.fam c3) (hC0 : Mkr P w K mg base 5 "Canvas" c0 (s_init F)) (hC1 : Mkr P w K mg base 5 "KeepingCanvas" c1 (s_init F)) (hC2 : Mkr P w K mg base 5 "CountingCanvas" c2 (s_init F)) (hC3 : Mkr P w K mg base 5 "KeepingCountingCanvas" c3 (s_init F)) (h_walk : ∀ C, F.fam C → MU P w K mg base C8.CX0 8 "walk" C (s_walk F)) (h_shear : ∀ C, F.fam C → MU P w K mg base C8.CX0 8 "shear" C (s_shear F)) (h_pix : ∀ C, F.fam C → PU P w K mg base C8.CX0 1 "pixels" C (s_pixels F)) (h_deeds : ∀ C, F.fam C → PU P w K mg base C8.CX0 1 "deeds" C (s_deeds F)) : Cal P w K mg base 12 "_law_walked_right" s__law_walked_right [] := by
  refine cal_of D sc__law_walked_right (fun _ _ _ _ _ _ us hl => match us, hl with | [_, _, _, _], _ => rfl) (fun vs H Q E h => ?_) (fun f cdv A outer s H vs Q E hr h => ?_)
  · obtain ⟨_, _, _, _, _, _, _, _, rfl, _⟩ := h
    rfl
  · obtain ⟨a, va, wa, v2, ps, t, ts, B, rfl, src, hB, na, nw, hv, hs, hl, hb, hv2, g, hway, gw, hlt, kk⟩ := h
    refine ⟨_, (pss_cons (ps_set (i := 4) sc__law_walked_right.nd rfl (Or.inr rfl) (pe_ix (r := rIxL K) ix_list (pe_lst (pa_cons pe_str (pa_cons pe_str pa_nil))) (pe_c h__law_draw hr (by decide) (by rfl) (pa_cons (pv 0) (pa_cons pe_int pa_nil))) (fun _ _ => rfl))) (pss_cons (ps_for PassesOwn.never rfl (pi_tup (pe_tup (pa_cons (pe_mk hC0 hr (by decide) (by rfl) (pa_cons (pv 1) pa_nil)) (pa_cons (pe_mk hC1 hr (by decide) (by rfl) (pa_cons (pv 1) pa_nil)) (pa_cons (pe_mk hC2 hr (by decide) (by rfl) (pa_cons (pv 1) pa_nil)) (pa_cons (pe_mk hC3 hr (by decide) (by rfl) (pa_cons (pv 1) pa_nil)) pa_nil)))))) (pg_name (i := 5) sc__law_walked_right.nd rfl (Or.inl rfl)) (pss_cons (ps_set (i := 6) sc__law_walked_right.nd rfl (Or.inl rfl) (pe_lst (pa_cons (pe_mu (CX := C8.CX0) (k := 8) (ES := fun _ => C8.E0) (pv 5) (hr.mono (by decide)) (fun _ => passN) (pa_cons (pv 3) pa_nil)) (pa_cons (pe_cmpR (op_eqD hr.units) (pe_pu (k := 1) (pv 5) (hr.mono (by decide))) (pe_c h_walked_picture hr (by decide) (by rfl) (pa_cons (pv 3) (pa_cons (pv 1) pa_nil))) (nomark _)) pa_nil)))) (pss_cons (ps_set (i := 6) sc__law_walked_right.nd rfl (Or.inl rfl) (pe_op op_cat (pv 6) (pe_lst (pa_cons (pe_mu (CX := C8.CX0) (k := 8) (ES := fun _ => C8.E0) (pv 5) (hr.mono (by decide)) (fun _ => passN) (pa_cons (pe_lc (own := [("_law_one", 7)]) (g := gName 7) (tt := tYes) (by rfl) sc__law_walked_right.nd (pi_list (pe_revL (pv 3))) (blkOk_by (own := [("_law_one", 7)]) (N := ["_law_source_here", "_law_dots_here", "_law_spin_here", "_law_path", "_law_sort", "_law_desk", "_law_told", "_law_one", "_law_dot_here"]) (sc := (defScope (top 76))) (by decide +kernel)) (fun _ _ _ _ _ => pg_name (i := 7) sc__law_walked_right.nd rfl (Or.inl rfl)) (fun _ _ _ _ _ => pts_nil) (fun _ _ _ _ _ => (pe_c h_back hr (by decide) (by rfl) (pa_cons (pv 7) pa_nil)))) pa_nil)) (pa_cons (pe_cmpR (op_eqD hr.units) (pe_pu (k := 1) (pv 5) (hr.mono (by decide))) (pv 1) (nomark _)) pa_nil))))) (pss_cons (ps_set (i := 6) sc__law_walked_right.nd rfl (Or.inl rfl) (pe_op op_cat (pv 6) (pe_lst (pa_cons (pe_mu (CX := C8.CX0) (k := 8) (ES := fun _ => C8.E0) (pv 5) (hr.mono (by decide)) (fun _ => passN) (pa_cons (pv 2) (pa_cons (pv 4) pa_nil))) (pa_cons (pe_cmpR (op_eqD hr.units) (pe_pu (k := 1) (pv 5) (hr.mono (by decide))) (pe_c h_sheared_picture hr (by decide) (by rfl) (pa_cons (pv 2) (pa_cons (pv 4) (pa_cons (pv 1) pa_nil)))) (nomark _)) pa_nil))))) (pss_cons (ps_if (PW.pt (pw_or (pt_cmpR (op_neD hr.units) (pv 6) (pe_op op_rep (pe_lst (pa_cons (pe_callB call_len_seq (by rfl) T.len PySem.boot_len (pa_cons (pv 1) pa_nil)) (pa_cons pe_bl pa_nil))) pe_int) (nomark _)) (pw_or1 (pt_cmpR op_ne (pe_callB call_len_seq (by rfl) T.len PySem.boot_len (pa_cons (pe_pu (k := 1) (pv 5) (hr.mono (by decide))) pa_nil)) pe_int (nomark _))))) (pss_one (ps_ret pe_bl)) pss_nil) (pss_one (ps_if (pt_cmpR (op_neD hr.units) (pe_callB (cr_sortP hr.units) (by rfl) T.srt (by decide +kernel) (pa_cons (pe_lc (own := [("_law_dot_here", 8)]) (g := gName 8) (tt := tYes) (by rfl) sc__law_walked_right.nd (pi_list (pe_pu (k := 1) (pv 5) (hr.mono (by decide)))) (blkOk_by (own := [("_law_dot_here", 8)]) (N := ["_law_source_here", "_law_dots_here", "_law_spin_here", "_law_path", "_law_sort", "_law_desk", "_law_told", "_law_one", "_law_dot_here"]) (sc := (defScope (top 76))) (by decide +kernel)) (fun _ _ _ _ _ => pg_name (i := 8) sc__law_walked_right.nd rfl (Or.inl rfl)) (fun _ _ _ _ _ => pts_nil) (fun _ _ _ _ _ => (pe_c h_unsheared hr (by decide) (by rfl) (pa_cons (pv 2) (pa_cons (pv 4) (pa_cons (pv 8) pa_nil)))))) pa_nil)) (pv 1) (nomark _)) (pss_one (ps_ret pe_bl)) pss_nil))))))) (pss_one (ps_ret pe_bl)))), ?_⟩
    refine ⟨small_le (by decide : 2 ≤ 1000), fun l0 nl0 => ?_⟩
    have src0 := src.same (sm_new (o := .lst [.str "xyx", .str "yxy"]) nl0)
    obtain ⟨xs0, hx0⟩ := src.there
    have l0a : l0 ≠ a := Ne.symm (ne_of_none hx0 nl0)
    refine ⟨_, rfl, a, 2, B, rfl, src0, by decide, by decide, by omega, fun HB d kB sB d0 d1 => ?_⟩
    have pick : ∃ b : Bool, atI [V.str "xyx", V.str "yxy"] d = some (.str (ordS b)) := by
      have z : d = 0 ∨ d = 1 := by omega
      rcases z with rfl | rfl
      · exact ⟨true, rfl⟩
      · exact ⟨false, rfl⟩
    obtain ⟨b, hb0⟩ := pick
    refine ⟨l0, _, d, _, rfl, rfl, SqL.of (kB _ _ l0a upd_same), hb0, ?_⟩
    have kHB : Kp a H HB := (Kp.of (sm_new nl0)).trans kB
    have hvB : Pic HB (.ref va) ps := Kp.lst tpl_P kHB src na hv
    have hwB : Way HB (.ref wa) ts := Kp.lst tpl_T kHB src nw hway
    have tB : IsTn HB v2 t := tpl_T _ _ _ _ (src.tsm kHB) hv2
    have fin : ∀ H', Same HB H' → Q (.bl true) H' := fun H' e => kk H' (kHB.trans (Kp.of e)) (sB.same e)
    clear hv hway hv2 kB src0 nl0 src kk sB hb0 hx0
    obtain ⟨va', vx, e, hva, hvp⟩ := hvB
    cases e
    obtain ⟨wa', wx, e, hwa, hwp⟩ := hwB
    cases e
    have lv : vx.length = ps.length := hvp.length
    have lw : wx.length = ts.length := hwp.length
    have hvB : Pic HB (.ref va) ps := ⟨va, vx, rfl, hva, hvp⟩
    have hwB : Way HB (.ref wa) ts := ⟨wa, wx, rfl, hwa, hwp⟩
    refine ⟨_, rfl, made f0 hvB hs hl fun H1 k0 s1 n1 D1 => ⟨rfl, _, rfl, made f1 (Pic.same s1 hvB) hs hl fun H2 k1 s2 n2 D2 => ⟨rfl, _, rfl, made f2 (Pic.same (s1.trans s2) hvB) hs hl fun H3 k2 s3 n3 D3 => ⟨rfl, _, rfl, made f3 (Pic.same ((s1.trans s2).trans s3) hvB) hs hl fun H4 k3 s4 n4 D4 => ⟨rfl, small_le (by decide : 4 ≤ 1000), fun tt ntt => ?_⟩⟩⟩⟩⟩
    have DS4 := ((((Desks.nil (Same.refl HB)).add s1 n1 D1).add s2 n2 D2).add s3 n3 D3).add s4 n4 D4
    have eT := sm_new (o := .tup [.ref k0.o, .ref k1.o, .ref k2.o, .ref k3.o]) ntt
    have DS := DS4.same eT
    generalize hLs : ((([] ++ [(k0, c0)]) ++ [(k1, c1)]) ++ [(k2, c2)]) ++ [(k3, c3)] = Ls at DS4 DS
    have hxs : [V.ref k0.o, .ref k1.o, .ref k2.o, .ref k3.o] = Ls.map fun q => V.ref q.1.o := by rw [← hLs]; rfl
    have lf : ∀ q ∈ Ls, F.fam q.2 := by
      intro q hq
      rw [← hLs] at hq
      simp only [List.nil_append, List.cons_append, List.mem_cons, List.not_mem_nil, or_false] at hq
      rcases hq with rfl | rfl | rfl | rfl <;> assumption
    have ktt : ∀ q ∈ Ls, ∀ x ∈ q.1.all, x ≠ tt := fun q hq x hx => by
      obtain ⟨u, hu⟩ := FD.tr (DS4.fd q hq) x hx
      exact ne_of_none hu ntt
    rw [hxs] at DS ⊢
    refine ⟨tt, rfl, ⟨_, SqT.of upd_same⟩, for_tup (xs := Ls.map fun q => V.ref q.1.o) (fun i σ H' => ∃ v5 v6, σ = [some (.ref a), some (.ref va), some v2, some (.ref wa), some (.str (ordS b)), v5, v6, none, none] ∧ Same HB H' ∧ H' tt = some (.tup (Ls.map fun q => V.ref q.1.o)) ∧ ∀ j q, i ≤ j → Ls[j]? = some q → FD H' q.1 q.2 ps)
      ⟨none, none, rfl, DS.sm, upd_same, fun j q _ hq => ?_⟩ (fun i σ H' _ ⟨_, _, _, _, e, _⟩ => SqT.of e) ?_ ?_⟩
    · exact DS.fd q (List.mem_of_getElem? hq)
    · rintro i x σ Ha hx ⟨v5, v6, rfl, sa, hta, hrest⟩
      rw [List.getElem?_map] at hx
      obtain ⟨q, hq, rfl⟩ := Option.map_eq_some_iff.mp hx
      have qm := List.mem_of_getElem? hq
      have qf := lf q qm
      have qn := DS.nw q qm
      have Dq := hrest i q (Nat.le_refl _) hq
      obtain ⟨dxq, fiq, hoq⟩ := Dq.obj
      have later : ∀ H', Mv q.1.o q.1.td q.1.pd Ha H' → H' tt = some (.tup (Ls.map fun q => V.ref q.1.o)) ∧ ∀ j r, i + 1 ≤ j → Ls[j]? = some r → FD H' r.1 r.2 ps := fun H' m => by
        refine ⟨m _ _ (fun z => ktt q qm _ List.mem_cons_self z.symm) (fun z => ktt q qm _ (List.mem_cons_of_mem _ List.mem_cons_self) z.symm) (fun z => ktt q qm _ (List.mem_cons_of_mem _ (List.mem_cons_of_mem _ List.mem_cons_self)) z.symm) hta, fun j r hj hr => ?_⟩
        exact FD.off (hrest j r (by omega) hr) (DS.apart hq hr (by omega)) m (Dq.tsm m)
      -- the way
      refine ⟨_, rfl, q.1.o, q.2, _, _, _, rfl, hoq, rfl, h_walk q.2 qf, _, rfl, q.1.o, q.1.td, q.1.pd, q.2, [], [], q.1.he, ps, _, ts, 200, rfl, qf, Dq, by decide, Way.same sa hwB, gw, hlt, hs, hb, by decide, fun H5 a5 b5 m5 D5 => ?_⟩
      have s5 := sm_mv sa qn m5
      obtain ⟨dx5, fi5, ho5⟩ := D5.obj
      refine ⟨_, rfl, q.1.o, q.2, _, _, _, rfl, ho5, h_pix q.2 qf, q.1.o, q.1.td, q.1.pd, q.2, _, _, a5, _, rfl, qf, D5, fun H6 p6 e6 np6 hp6 => ?_⟩
      have s6 := s5.trans e6
      refine ⟨_, rfl, _, rfl, _, _, ts, ps, 200, rfl, Way.same s6 hwB, gw, hlt, Pic.same s6 hvB, hs, hl, hb, by decide, fun H7 p7 e7 np7 hp7 => ?_⟩
      have s7 := s6.trans e7
      have D7 := (D5.same e6).same e7
      refine ⟨_, _, dp_L (Pic.same e7 hp6), dp_L hp7, shaped_L _, shaped_L _, ?_⟩
      refine ⟨small_le (by decide : 2 ≤ 1000), fun l1 nl1 => ?_⟩
      have eL1 := sm_new (o := .lst [V.int ((walksT ts ps).length : Nat), .bl (PyData.eqv (encL (walksT ts ps)) (encL (walksT ts ps)))]) nl1
      obtain ⟨x1, x2, x3⟩ := D7.nl nl1
      have D8 := D7.same eL1
      have ho8 := eL1 _ _ (e7 _ _ (e6 _ _ ho5))
      have s8 := s7.trans eL1
      -- the way back
      refine ⟨_, rfl, _, rfl, q.1.o, q.2, _, _, _, rfl, ho8, rfl, h_walk q.2 qf, _, rfl, wa, wx, rfl, SqL.of (s8 _ _ hwa), fun r nr => ⟨r, rfl, ⟨_, SqL.of upd_same⟩, fun D hD => lc_mapL (R := IsTn) (R' := IsTn) tpl_T tpl_T backT hD upd_same (Paired.imp (fun x d q => tpl_T _ _ x d (sm_t (s8.trans (sm_new nr))) q) (paired_rev hwp)) (by rw [List.length_reverse]; omega) (fun i x d Hx Qx hd ex hxd qx => ⟨_, rfl, x, d, rfl, hxd, (gw d (List.mem_reverse.mp (List.mem_of_getElem? hd))).1, fun Hy py ey hpy => qx _ Hy ey ⟨py, rfl, hpy⟩⟩) fun H9 e9 hL9 => ?_⟩⟩
      have e89 := (sm_new (o := .lst wx.reverse) nr).trans e9
      have D9 := D8.same e89
      have s9 := s8.trans e89
      refine ⟨q.1.o, q.1.td, q.1.pd, q.2, _, _, a5, _, _, backW ts, 200 + 2 * ts.length, rfl, qf, D9, by show 1 ≤ 5; decide, hL9, gw.back, by rw [GoodW.rev_len]; exact hlt, asc_canon _, walks_bd gw hb, by omega, fun H10 a10 b10 m10 D10 => ?_⟩
      rw [walks_back gw hs] at D10
      have s10 := sm_mv s9 qn m10
      obtain ⟨dx10, fi10, ho10⟩ := D10.obj
      refine ⟨_, rfl, q.1.o, q.2, _, _, _, rfl, ho10, h_pix q.2 qf, q.1.o, q.1.td, q.1.pd, q.2, _, _, a10, _, rfl, qf, D10, fun H11 p11 e11 np11 hp11 => ?_⟩
      have s11 := s10.trans e11
      refine ⟨_, rfl, _, _, dp_L hp11, dp_L (Pic.same s11 hvB), shaped_L _, shaped_L _, small_le (by decide : 2 ≤ 1000), fun l2 nl2 => ?_⟩
      have hl1 := e11 _ _ (m10 _ _ x1 x2 x3 (e89 _ _ (upd_same (H := H7) (a := l1) (o := .lst [V.int ((walksT ts ps).length : Nat), .bl (PyData.eqv (encL (walksT ts ps)) (encL (walksT ts ps)))]))))
      have eL2 := sm_new (o := .lst [V.int ((walksT (backW ts) (walksT ts ps)).length : Nat), .bl (PyData.eqv (encL ps) (encL ps))]) nl2
      refine ⟨l1, l2, _, _, rfl, rfl, eL2 _ _ hl1, upd_same, by show 2 + 2 ≤ sizeLine; decide, fun l3 nl3 => ?_⟩
      have eL3 := sm_new (o := .lst ([V.int ((walksT ts ps).length : Nat), .bl (PyData.eqv (encL (walksT ts ps)) (encL (walksT ts ps)))] ++ [V.int ((walksT (backW ts) (walksT ts ps)).length : Nat), .bl (PyData.eqv (encL ps) (encL ps))])) nl3
      have D12 := ((D10.same e11).same eL2).same eL3
      have ho12 := eL3 _ _ (eL2 _ _ (e11 _ _ ho10))
      have s12 := (s11.trans eL2).trans eL3
      obtain ⟨y1, y2, y3⟩ := ((D10.same e11).same eL2).nl nl3
      -- the shear
      refine ⟨_, rfl, _, rfl, q.1.o, q.2, _, _, _, rfl, ho12, rfl, h_shear q.2 qf, _, rfl, _, rfl, q.1.o, q.1.td, q.1.pd, q.2, _, _, a10, _, v2, t, b, 200, rfl, qf, D12, by show 2 ≤ 5; decide, tB.same s12, g, hs, hb, by decide, fun H13 a13 m13 D13 => ?_⟩
      have s13 := sm_mv s12 qn m13
      obtain ⟨dx13, fi13, ho13⟩ := D13.obj
      refine ⟨_, rfl, q.1.o, q.2, _, _, _, rfl, ho13, h_pix q.2 qf, q.1.o, q.1.td, q.1.pd, q.2, _, _, a13, _, rfl, qf, D13, fun H14 p14 e14 np14 hp14 => ?_⟩
      have s14 := s13.trans e14
      refine ⟨_, rfl, _, rfl, _, rfl, v2, _, t, b, ps, 200, rfl, tB.same s14, g, Pic.same s14 hvB, hs, hl, hb, by decide, fun H15 p15 e15 np15 hp15 => ?_⟩
      have s15 := s14.trans e15
      refine ⟨_, _, dp_L (Pic.same e15 hp14), dp_L hp15, shaped_L _, shaped_L _, small_le (by decide : 2 ≤ 1000), fun l4 nl4 => ?_⟩
      have hl3 := e15 _ _ (e14 _ _ (m13 _ _ y1 y2 y3 (upd_same (H := upd H11 l2 (.lst [V.int ((walksT (backW ts) (walksT ts ps)).length : Nat), .bl (PyData.eqv (encL ps) (encL ps))])) (a := l3) (o := .lst ([V.int ((walksT ts ps).length : Nat), .bl (PyData.eqv (encL (walksT ts ps)) (encL (walksT ts ps)))] ++ [V.int ((walksT (backW ts) (walksT ts ps)).length : Nat), .bl (PyData.eqv (encL ps) (encL ps))])))))
      have eL4 := sm_new (o := .lst [V.int ((shearsT t b ps).length : Nat), .bl (PyData.eqv (encL (shearsT t b ps)) (encL (shearsT t b ps)))]) nl4
      refine ⟨l3, l4, _, _, rfl, rfl, eL4 _ _ hl3, upd_same, by show 4 + 2 ≤ sizeLine; decide, fun l5 nl5 => ?_⟩
      have eL5 := sm_new (o := .lst (([V.int ((walksT ts ps).length : Nat), .bl (PyData.eqv (encL (walksT ts ps)) (encL (walksT ts ps)))] ++ [V.int ((walksT (backW ts) (walksT ts ps)).length : Nat), .bl (PyData.eqv (encL ps) (encL ps))]) ++ [V.int ((shearsT t b ps).length : Nat), .bl (PyData.eqv (encL (shearsT t b ps)) (encL (shearsT t b ps)))])) nl5
      have D16 := (((D13.same e14).same e15).same eL4).same eL5
      have ho16 := eL5 _ _ (eL4 _ _ (e15 _ _ (e14 _ _ ho13)))
      have s16 := (s15.trans eL4).trans eL5
      -- what was told
      refine ⟨_, rfl, _, rfl, va, vx, rfl, .inl (SqL.of (s16 _ _ hva)), small_le (by decide : 2 ≤ 1000), fun l6 nl6 => ⟨l6, 3, _, rfl, rfl, upd_same, by decide, by decide, by show 2 * 3 ≤ sizeLine; decide, fun l7 nl7 => ?_⟩⟩
      have e67 := (sm_new nl6).trans (sm_new (o := .lst (List.replicate 3 [V.int (vx.length : Nat), .bl true]).flatten) nl7)
      refine ⟨.list [.int (ps.length : Nat), .bool true, .int (ps.length : Nat), .bool true, .int (ps.length : Nat), .bool true], .list [.int (ps.length : Nat), .bool true, .int (ps.length : Nat), .bool true, .int (ps.length : Nat), .bool true],
        .lst (SqL.of (e67 _ _ upd_same)) (.cons (dp_i (by rw [walks_len gw hs])) (.cons (dp_b (yes_L _)) (.cons (dp_i (by rw [walks_back gw hs])) (.cons (dp_b (yes_L _)) (.cons (dp_i (by rw [shears_len t b hs])) (.cons (dp_b (yes_L _)) .nil)))))),
        .lst (SqL.of upd_same) (.cons (dp_i (by rw [lv])) (.cons (dp_b rfl) (.cons (dp_i (by rw [lv])) (.cons (dp_b rfl) (.cons (dp_i (by rw [lv])) (.cons (dp_b rfl) .nil)))))), shaped_W _, shaped_W _, _, rfl, ?_⟩
      refine ifC (same_no (shaped_W _)) ?_
      have D17 := D16.same e67
      have ho17 := e67 _ _ ho16
      have s17 := s16.trans e67
      refine ⟨_, rfl, q.1.o, q.2, _, _, _, rfl, ho17, h_deeds q.2 qf, q.1.o, q.1.td, q.1.pd, q.2, _, _, a13, _, rfl, qf, D17, fun H18 p18 x18 e18 hx18 hl18 => ⟨p18, x18, rfl, .inl (SqL.of hx18), rfl, _, rfl, ?_⟩⟩
      refine ifC (ne_no (congrArg V.int (by rw [hl18] <;> rfl))) ?_
      have D18 := D17.same e18
      have ho18 := e18 _ _ ho17
      have s18 := s17.trans e18
      -- back from the shear
      refine ⟨_, rfl, q.1.o, q.2, _, _, _, rfl, ho18, h_pix q.2 qf, q.1.o, q.1.td, q.1.pd, q.2, _, _, a13, _, rfl, qf, D18, fun H19 p19 e19 np19 hp19 => ?_⟩
      obtain ⟨p19', x19, e, h19, hp19⟩ := hp19
      cases e
      have s19 := s18.trans e19
      have l19 : x19.length = ps.length := by rw [hp19.length, shears_len t b hs]
      refine ⟨p19, rfl, ⟨_, SqL.of h19⟩, fun D hD => lc_mapL (R := IsP) (R' := IsP) tpl_P tpl_P (unshearT t b) hD h19 hp19 (by omega) (fun i x d Hx Qx hd ex hxd qx => ⟨_, rfl, _, rfl, _, rfl, v2, x, t, b, d, 206, rfl, tB.same (s19.trans ex), g, hxd, shears_bd g b hb d (List.mem_of_getElem? hd), by decide, fun Hy vy ey hvy => qx _ Hy ey hvy⟩) fun H20 e20 hL20 => ?_⟩
      refine ⟨_, _, rfl, hL20, by rw [List.length_map, shears_len t b hs]; omega, fun p21 x21 np21 hp21 => ?_⟩
      rw [shears_back t b hs] at hp21
      have e21 := sm_new (o := .lst x21) np21
      have s21 := (s19.trans e20).trans e21
      refine ⟨_, rfl, _, _, dp_L (new_list tpl_P np21 hp21), dp_L (Pic.same s21 hvB), shaped_L _, shaped_L _, _, rfl, ?_⟩
      refine ifC (same_no (shaped_L _)) ?_
      have mAll : Mv q.1.o q.1.td q.1.pd Ha (upd H20 p21 (.lst x21)) := (((((m5.trans (Mv.of ((e6.trans e7).trans eL1))).trans (Mv.of e89)).trans m10).trans (Mv.of ((e11.trans eL2).trans eL3))).trans m13).trans (Mv.of ((((((((e14.trans e15).trans eL4).trans eL5).trans e67).trans e18).trans e19).trans e20).trans e21))
      obtain ⟨z1, z2⟩ := later _ mAll
      exact ⟨_, _, rfl, s21, z1, z2⟩
    · rintro σ Ha ⟨v5, v6, rfl, sa, hta, hrest⟩
      exact fin Ha sa

end
end TP


set_option Elab.async false
set_option linter.all false
set_option maxRecDepth 100000
set_option maxHeartbeats 4000000
namespace TP
open PySem PySem.Spec PyProof.Rows L2
open C8 (Cal pe_c pe_gc)
section
variable {P : Program} {w : World} {K : PySem.W.Frag} {mg : Str → Option Value} {base : Heap}


/-! ### list + list, the left one only read -/
theorem add_meets {l b : Addr} {o : Obj} {items items2 : Array Value} {n n2 : Nat} (hc : o.cls = .type "list") (hd : o.data = .seq items n) (hz : items.size + items2.size ≤ sizeLine) :
    Meets (Builtin.«list.__add__» ⟨[.ref l, .ref b], []⟩) (fun _ R s => s.heap.get? l = some o ∧ s.heap.get? b = some { cls := .type "list", dict := none, data := .seq items2 n2, slots := #[] } ∧ R (.ok (.ret (Value.ref s.heap.objs.size))) { s with heap := s.heap.push { cls := Value.type "list", data := Data.seq (items ++ items2) }, toks := s.toks }) := by
  obtain ⟨oc, od, dt, sl⟩ := o
  dsimp only at hc hd
  subst hc hd
  refine .of_wp fun prog w A R s h => ?_
  obtain ⟨hp, g, d, tk, os⟩ := s
  obtain ⟨hl, hb, h⟩ := h
  have q1 := AutoSeq1.idx_int
  have q2 := AutoSeq1.sub_tuple_tuple
  have q3 := AutoSeq1.sub_list_list
  have q4 := AutoSeq1.sub_tuple_list
  have q5 := AutoSeq1.sub_list_tuple
  wp_walk using AutoSeq1.wpAny_loadPart' hl, AutoSeq1.wpAny_loadPart' hb
  exact ⟨_, rfl, h⟩
def rCatS (K : PySem.W.Frag) : R2 := fun x y H Q => ∃ l b xs zs, x = .ref l ∧ y = .ref b ∧ SqL K H l xs ∧ H b = some (.lst zs) ∧ xs.length + zs.length ≤ sizeLine ∧ ∀ p, H p = none → Q (.ref p) (upd H p (.lst (xs ++ zs)))
theorem op_catS {X : Cx} : OpR X (binaryOp .Add) (rCatS X.K) := by
  intro pins s σ H x y v u Q I rx ry h
  obtain ⟨l, b, xs, zs, rfl, rfl, hH, hB, hz, q⟩ := h
  cases rx
  cases ry
  obtain ⟨its, r, ⟨o, n, ho, hc, _, hd⟩, hl⟩ := I.list hH
  obtain ⟨z2, its2, n2, r2, hl2, e2⟩ := I.lstM hB
  refine concat_meets ⟨_, ho, hc⟩ ⟨_, e2, rfl⟩ noFill_list_add seq_list_add F.slot_list_add F.entry_list_add (F.args_list_add_2 _ _) (add_meets (b := b) (items2 := its2.toArray) (n2 := n2) hc hd (by
    have := r.length
    have := r2.length
    simp only [List.size_toArray]
    omega)) ⟨ho, e2, ?_⟩
  have ea : its.toArray ++ its2.toArray = (its ++ its2).toArray := by simp
  rw [ea]
  exact ⟨.ref _, _, I.lnew (t' := s.toks) (r.append r2) (by rw [List.length_append]; omega), rfl, q _ I.fresh⟩


/-! ### lists of turns, of numbers, as data -/
def encT (t : Tn) : PyData := .tuple [.int t.1, .int t.2.1, .int t.2.2]
theorem dpAll_T {K : PySem.W.Frag} {H : Hp} : ∀ {xs : List V} {ts : List Tn}, Paired (IsTn H) xs ts → DpAll K H xs (ts.map encT)
  | _, _, .nil => .nil
  | _, _, .cons ⟨a, e, ha⟩ t => .cons (by rw [e]; exact .tup (SqT.of ha) (.cons (.int _) (.cons (.int _) (.cons (.int _) .nil)))) (dpAll_T t)
theorem dpAll_I {K : PySem.W.Frag} {H : Hp} : ∀ zs : List Int, DpAll K H (zs.map V.int) (zs.map PyData.int)
  | [] => .nil
  | _ :: zs => .cons (.int _) (dpAll_I zs)
theorem shaped_G {α : Type} (enc : α → PyData) (h1 : ∀ x, (enc x).canLay0 = true) (h2 : ∀ x, (enc x).depth ≤ 2) (l : List α) : SeqAt.shaped (.list (l.map enc)) = true := by
  have c : ∀ l : List α, PyData.canLayAll0 (l.map enc) = true ∧ PyData.depthAll (l.map enc) ≤ 2 := fun l => by
    induction l with
    | nil => simp [PyData.canLayAll0, PyData.depthAll]
    | cons x l ih =>
      rw [List.map_cons, PyData.canLayAll0, PyData.depthAll, h1, ih.1]
      exact ⟨rfl, Nat.max_le.mpr ⟨h2 x, ih.2⟩⟩
  unfold SeqAt.shaped
  rw [Bool.and_eq_true]
  refine ⟨by rw [PyData.canLay0]; exact (c l).1, decide_eq_true ?_⟩
  rw [PyData.depth]
  have := (c l).2
  omega
theorem shaped_0 : SeqAt.shaped (.list []) = true := shaped_L []
theorem ne_nil {α : Type} (enc : α → PyData) (l : List α) : (!PyData.eqv (.list (l.map enc)) (.list [])) = !l.isEmpty := by
  cases l with
  | nil => rfl
  | cons x l => rw [List.map_cons, PyData.eqv, PyData.eqvAll] <;> rfl
theorem shaped_Tn (ts : List Tn) : SeqAt.shaped (.list (ts.map encT)) = true := shaped_G encT (fun t => by simp [encT, PyData.canLay0, PyData.canLayAll0]) (fun t => by simp [encT, PyData.depth, PyData.depthAll]) ts
theorem shaped_I (zs : List Int) : SeqAt.shaped (.list (zs.map PyData.int)) = true := shaped_G PyData.int (fun t => by simp [PyData.canLay0]) (fun t => by simp [PyData.depth]) zs
theorem cut_ints (zs : List Int) (m : Int) : ∃ ws : List Int, cutV (zs.map V.int) none (some m) = ws.map V.int ∧ ws.length ≤ zs.length := by
  unfold cutV
  rw [← List.map_drop, ← List.map_take]
  refine ⟨_, rfl, ?_⟩
  rw [List.length_take, List.length_drop]
  omega
theorem same_kp {a : Addr} {H Hx H' : Hp} (e : Same H Hx) (n : H a = none) (k : Kp a Hx H') : Same H H' := fun b u h => k b u (ne_of_none h n) (e b u h)
/-- a list of keepers, as the comprehension has made i of them -/
def KeepsAt (a : Addr) (H0 : Hp) (B : Nat) (D : Addr) (i : Nat) (H : Hp) : Prop := Kp a H0 H ∧ IsSrc H a (B + 4 * i) ∧ ∃ acc ts, H D = some (.lst acc) ∧ Paired (IsTn H) acc ts ∧ ts.length = i ∧ GoodW ts
theorem KeepsAt.start {a D : Addr} {H0 : Hp} {B : Nat} (s : IsSrc H0 a B) (n : H0 D = none) : KeepsAt a H0 B D 0 (L2.upd H0 D (.lst [])) := ⟨(Kp.refl a H0).new n, s.same (sm_new n), [], [], upd_same, .nil, rfl, fun _ h => (nomatch h)⟩
theorem KeepsAt.next {a D : Addr} {H0 H H' : Hp} {B i : Nat} {y : V} {t : Tn} (k : KeepsAt a H0 B D i H) (n : H0 D = none) (na : D ≠ a) (h1 : Kp a H H') (h2 : IsSrc H' a (B + 4 * i + 4)) (h3 : IsTn H' y t) (h4 : Good t) (h5 : Keep t) (l : i ≤ 500) :
    ∃ acc, H' D = some (.lst acc) ∧ acc.length < sizeLine ∧ KeepsAt a H0 B D (i + 1) (L2.upd H' D (.lst (acc ++ [y]))) := by
  obtain ⟨kp, s, acc, ts, hD, hp, lt, g⟩ := k
  have hD' := h1 _ _ na hD
  have t1 : TSm H' (L2.upd H' D (.lst (acc ++ [y]))) := TSm.lst hD'
  refine ⟨acc, hD', small_lt (by rw [hp.length, lt]; omega), (kp.trans h1).mut n, ?_, _, ts ++ [t], upd_same, Paired.more (Paired.imp (fun x d q => tpl_T _ _ x d ((s.tsm h1).trans t1) q) hp) (tpl_T _ _ _ _ t1 h3), by rw [List.length_append, lt]; rfl, fun u hu => ?_⟩
  · exact (h2.off (Ne.symm na)).mono (by omega)
  · rcases List.mem_append.mp hu with hu | hu
    · exact g u hu
    · rw [List.mem_singleton.mp hu]
      exact ⟨h4, h5⟩
/-! ### the last picture -/
def everyL : List Px := (List.range 81).map fun i => (((i : Nat) : Int) / 9, ((i : Nat) : Int) % 9)
instance (a b : Px) : Decidable (ltP a b) := by unfold ltP; exact inferInstance
theorem every_asc : Asc everyL := by decide +kernel
theorem every_few : Few (4, 1, 2) everyL := by unfold Few; decide +kernel
theorem every_bd : BdL 3000 everyL := by
  have h : ∀ z ∈ everyL, z.1.natAbs < 2 ^ 10 ∧ z.2.natAbs < 2 ^ 10 := by decide +kernel
  exact fun z hz => Bd.mono (h z hz) (by omega)
theorem good412 : Good (4, 1, 2) := ⟨by decide, by decide, by decide, by decide, by decide, by decide, by decide⟩
theorem good320 : Good (3, 2, 0) := ⟨by decide, by decide, by decide, by decide, by decide, by decide, by decide⟩

def s_law (K : PySem.W.Frag) : Sp := fun vs H Q _ => ∃ (sc : Addr) (zs : List Int), vs = [.ref sc] ∧ SqL K H sc (zs.map V.int) ∧ zs.length ≤ 63 ∧ ∀ H', Q (.bl true) H'
theorem sc_law : FnScope ["_law_script", "_law_k", "_law_cell", "_law_source_here", "_law_wide", "_law_dots_here", "_law_spin_here", "_law_path", "_law_turning", "_law_every", "_law_spot"] ["_law_script"] (defScope (top 77)) := ⟨rfl, rfl, rfl, by decide +kernel, rfl, by decide +kernel, by decide +kernel⟩
theorem ok_law {f : Addr} {fd : FuncData} (F0 : FnT K "law" "law" (top 77) f fd) (T : Fre mg) (h__law_turned_right : Cal P w K mg base 12 "_law_turned_right" s__law_turned_right []) (h__law_walked_right : Cal P w K mg base 12 "_law_walked_right" s__law_walked_right []) (h__law_spin : Cal P w K mg base 2 "_law_spin" s__law_spin []) (h__law_dots : Cal P w K mg base 3 "_law_dots" s__law_dots []) (h__law_keeper : Cal P w K mg base 2 "_law_keeper" s__law_keeper []) (h__law_draw : Cal P w K mg base 1 "_law_draw" s__law_draw []) (h__law_source : Cal P w K mg base 1 "_law_source" s__law_source [])  : FnOk P w K mg base C8.CX0 13 f fd ["_law_script"] (s_law K) := by
  refine F0.ok sc_law (fun vs H Q E h => ?_) (fun cdv A outer s H vs Q E hr h => ?_)
  · obtain ⟨_, _, rfl, _⟩ := h
    rfl
  · obtain ⟨sc, zs, rfl, hsc, hz, kk⟩ := h
    refine ⟨_, PSs.nox (pss_cons (ps_for PassesOwn.never rfl (pi_enum (by rfl) T.enu (pa_cons (pe_slice sl_list (pe_op op_catS (pv 0) (pe_lst (pa_cons pe_int pa_nil))) po_none (po_some (pe_callB (call_max2 rfl) (by rfl) T.max (by decide +kernel) (pa_cons pe_int (pa_cons (pe_callB (call_min2 rfl) (by rfl) T.min (by decide +kernel) (pa_cons (pe_callB call_len_seq (by rfl) T.len PySem.boot_len (pa_cons (pv 0) pa_nil)) (pa_cons pe_int pa_nil))) pa_nil))))) pa_nil)) (pg_tup (by rfl) (pgs_cons (pg_name (i := 1) sc_law.nd rfl (Or.inl rfl)) (pgs_cons (pg_name (i := 2) sc_law.nd rfl (Or.inl rfl)) pgs_nil))) (pss_cons (ps_set (i := 3) sc_law.nd rfl (Or.inr rfl) (pe_c h__law_source hr (by decide) (by rfl) (pa_cons (pv 2) (pa_cons (pv 1) pa_nil)))) (pss_cons (ps_for PassesOwn.never rfl (pi_tup (pe_tup (pa_cons pe_int (pa_cons pe_int (pa_cons (pe_op op_pow pe_int pe_int) pa_nil))))) (pg_name (i := 4) sc_law.nd rfl (Or.inl rfl)) (pss_cons (ps_par (i := 5) (j := 6) (by rfl) sc_law.nd rfl rfl (by decide) rfl rfl (pa_cons (pe_c h__law_dots hr (by decide) (by rfl) (pa_cons (pv 3) (pa_cons pe_int (pa_cons (pe_ix (r := rIxL K) ix_list (pe_lst (pa_cons pe_int (pa_cons (pe_op op_pow pe_int pe_int) pa_nil))) (pe_c h__law_draw hr (by decide) (by rfl) (pa_cons (pv 3) (pa_cons pe_int pa_nil))) (fun _ _ => rfl)) pa_nil)))) (pa_cons (pe_c h__law_spin hr (by decide) (by rfl) (pa_cons (pv 3) (pa_cons (pv 4) pa_nil))) pa_nil)) (by rfl)) (pss_cons (ps_setLc (i := 7) (own := [("_law_turning", 8)]) (g := gName 8) (tt := tYes) (by rfl) sc_law.nd rfl rfl (sw_true rfl rfl rfl (by decide +kernel)) (pi_range1 (by rfl) T.rng (pa_cons (pe_c h__law_draw hr (by decide) (by rfl) (pa_cons (pv 3) (pa_cons pe_int pa_nil))) pa_nil)) (blkOk_by (own := [("_law_turning", 8)]) (N := ["_law_script", "_law_k", "_law_cell", "_law_source_here", "_law_wide", "_law_dots_here", "_law_spin_here", "_law_path", "_law_turning", "_law_every", "_law_spot"]) (sc := (defScope (top 77))) (by decide +kernel)) (fun _ _ _ _ _ => pg_name (i := 8) sc_law.nd rfl (Or.inl rfl)) (fun _ _ _ _ _ => pts_nil) (fun _ _ _ _ _ => (pe_c h__law_keeper hr (by decide) (by rfl) (pa_cons (pv 3) pa_nil)))) (pss_cons (ps_if (PW.pt (pw_or (pt_not (pt_val (pe_c h__law_turned_right hr (by decide) (by rfl) (pa_cons (pv 5) (pa_cons (pv 6) pa_nil))))) (pw_or1 (pt_not (pt_val (pe_c h__law_walked_right hr (by decide) (by rfl) (pa_cons (pv 3) (pa_cons (pv 5) (pa_cons (pv 6) (pa_cons (pv 7) pa_nil)))))))))) (pss_one (ps_ret pe_bl)) pss_nil) (pss_one (ps_if (PW.pt (pw_and (pt_cmpR (op_neD hr.units) (pv 7) (pe_lst pa_nil) (nomark _)) (pw_and1 (pt_not (pt_val (pe_c h__law_turned_right hr (by decide) (by rfl) (pa_cons (pv 5) (pa_cons (pe_ix (r := rIxL K) ix_list (pv 7) pe_int (fun _ _ => rfl)) pa_nil)))))))) (pss_one (ps_ret pe_bl)) pss_nil)))))) (pss_one (ps_if (PW.pt (pw_and (pt_cmpR op_eq (pv 1) pe_int (nomark _)) (pw_and1 (pt_cmpR (op_neD hr.units) (pv 0) (pe_lst pa_nil) (nomark _))))) (pss_cons (ps_setLc (i := 7) (own := [("_law_turning", 8)]) (g := gName 8) (tt := tYes) (by rfl) sc_law.nd rfl rfl (sw_true rfl rfl rfl (by decide +kernel)) (pi_range1 (by rfl) T.rng (pa_cons pe_int pa_nil)) (blkOk_by (own := [("_law_turning", 8)]) (N := ["_law_script", "_law_k", "_law_cell", "_law_source_here", "_law_wide", "_law_dots_here", "_law_spin_here", "_law_path", "_law_turning", "_law_every", "_law_spot"]) (sc := (defScope (top 77))) (by decide +kernel)) (fun _ _ _ _ _ => pg_name (i := 8) sc_law.nd rfl (Or.inl rfl)) (fun _ _ _ _ _ => pts_nil) (fun _ _ _ _ _ => (pe_c h__law_keeper hr (by decide) (by rfl) (pa_cons (pv 3) pa_nil)))) (pss_one (ps_if (pt_not (pt_val (pe_c h__law_walked_right hr (by decide) (by rfl) (pa_cons (pv 3) (pa_cons (pe_c h__law_dots hr (by decide) (by rfl) (pa_cons (pv 3) (pa_cons pe_int (pa_cons pe_int pa_nil)))) (pa_cons (pe_c h__law_spin hr (by decide) (by rfl) (pa_cons (pv 3) (pa_cons pe_int pa_nil))) (pa_cons (pv 7) pa_nil))))))) (pss_one (ps_ret pe_bl)) pss_nil))) pss_nil))))) (pss_cons (ps_setLc (i := 9) (own := [("_law_spot", 10)]) (g := gName 10) (tt := tYes) (by rfl) sc_law.nd rfl rfl (sw_true rfl rfl rfl (by decide +kernel)) (pi_range1 (by rfl) T.rng (pa_cons pe_int pa_nil)) (blkOk_by (own := [("_law_spot", 10)]) (N := ["_law_script", "_law_k", "_law_cell", "_law_source_here", "_law_wide", "_law_dots_here", "_law_spin_here", "_law_path", "_law_turning", "_law_every", "_law_spot"]) (sc := (defScope (top 77))) (by decide +kernel)) (fun _ _ _ _ _ => pg_name (i := 10) sc_law.nd rfl (Or.inl rfl)) (fun _ _ _ _ _ => pts_nil) (fun _ _ _ _ _ => (pe_tup (pa_cons (pe_op op_fdivW (pv 10) pe_int) (pa_cons (pe_op op_mod (pe_callTy call_int1 (by rfl) T.int PyProof.Rows.boot_int (pa_cons (pv 10) pa_nil)) pe_int) pa_nil))))) (pss_one (ps_ret (pe_and (pe_c h__law_turned_right hr (by decide) (by rfl) (pa_cons (pv 9) (pa_cons (pe_tup (pa_cons pe_int (pa_cons pe_int (pa_cons pe_int pa_nil)))) pa_nil))) (pe_one (pe_c h__law_turned_right hr (by decide) (by rfl) (pa_cons (pe_lst pa_nil) (pa_cons (pe_tup (pa_cons pe_int (pa_cons pe_int (pa_cons pe_int pa_nil)))) pa_nil))))))))), ?_⟩
    -- the cells
    refine ⟨_, rfl, small_le (by decide : 1 ≤ 1000), fun l0 nl0 => ?_⟩
    refine ⟨sc, l0, _, _, rfl, rfl, Same.seq (sm_new nl0) hsc, upd_same, small_le (by rw [List.length_map]; show zs.length + 1 ≤ 1000; omega), fun l1 nl1 => ?_⟩
    have eS1 := (sm_new (o := .lst [.int 0]) nl0).trans (sm_new (o := .lst (zs.map V.int ++ [.int 0])) nl1)
    refine ⟨_, rfl, sc, _, rfl, .inl (Same.seq eS1 hsc), _, _, rfl, _, _, rfl, _, rfl, l1, _, rfl, SqL.of upd_same, fun l2 nl2 => ?_⟩
    obtain ⟨ws, hcut, lws⟩ := cut_ints (zs ++ [0]) (if (if (4 : Int) < ((zs.map V.int).length : Nat) then (4 : Int) else ((zs.map V.int).length : Nat)) > 1 then (if (4 : Int) < ((zs.map V.int).length : Nat) then (4 : Int) else ((zs.map V.int).length : Nat)) else 1)
    rw [List.map_append] at hcut
    rw [List.length_append] at lws
    have lws : ws.length ≤ zs.length + 1 := lws
    have eS2 := eS1.trans (sm_new (o := .lst (cutV (zs.map V.int ++ [V.int 0]) none (some (if (if (4 : Int) < ((zs.map V.int).length : Nat) then (4 : Int) else ((zs.map V.int).length : Nat)) > 1 then (if (4 : Int) < ((zs.map V.int).length : Nat) then (4 : Int) else ((zs.map V.int).length : Nat)) else 1)))) nl2)
    have hl2 : (upd (upd (upd H l0 (.lst [.int 0])) l1 (.lst (zs.map V.int ++ [.int 0]))) l2 (.lst (cutV (zs.map V.int ++ [V.int 0]) none (some (if (if (4 : Int) < ((zs.map V.int).length : Nat) then (4 : Int) else ((zs.map V.int).length : Nat)) > 1 then (if (4 : Int) < ((zs.map V.int).length : Nat) then (4 : Int) else ((zs.map V.int).length : Nat)) else 1))))) l2 = some (.lst (ws.map V.int)) := by
      rw [← hcut]
      exact upd_same
    refine ⟨l2, ws.map V.int, rfl, SqL.of hl2, for_it (walk_enum (xs := ws.map V.int)) (fun i σ H' => ∃ v1 v2 v3 v4 v5 v6 v7, σ = [some (.ref sc), v1, v2, v3, v4, v5, v6, v7, none, none, none] ∧ Same (upd (upd (upd H l0 (.lst [.int 0])) l1 (.lst (zs.map V.int ++ [.int 0]))) l2 (.lst (cutV (zs.map V.int ++ [V.int 0]) none (some (if (if (4 : Int) < ((zs.map V.int).length : Nat) then (4 : Int) else ((zs.map V.int).length : Nat)) > 1 then (if (4 : Int) < ((zs.map V.int).length : Nat) then (4 : Int) else ((zs.map V.int).length : Nat)) else 1))))) H')
      ⟨none, none, none, none, none, none, none, rfl, Same.refl _⟩ (fun i σ H' _ ⟨_, _, _, _, _, _, _, _, e⟩ => SqL.of (e _ _ hl2)) ?_ ?_⟩
    · rintro i x σ H3 H4 hi ⟨v1, v2, v3, v4, v5, v6, v7, rfl, e3⟩ ⟨T, y, x', rfl, hT, rfl, hy, hx'⟩
      generalize upd (upd (upd H l0 (.lst [.int 0])) l1 (.lst (zs.map V.int ++ [.int 0]))) l2 (.lst (cutV (zs.map V.int ++ [V.int 0]) none (some (if (if (4 : Int) < ((zs.map V.int).length : Nat) then (4 : Int) else ((zs.map V.int).length : Nat)) > 1 then (if (4 : Int) < ((zs.map V.int).length : Nat) then (4 : Int) else ((zs.map V.int).length : Nat)) else 1)))) = H2 at eS2 hl2 e3 ⊢
      obtain rfl : V.int (i : Nat) = y := Option.some.inj hy
      dsimp only at hx'
      rw [List.getElem?_map] at hx'
      obtain ⟨c, hc, rfl⟩ := Option.map_eq_some_iff.mp hx'
      have hi64 : i < 64 := by
        rw [List.length_map] at hi
        omega
      have e4 := e3.trans (sm_new (o := .tup [.int (i : Nat), .int c]) hT)
      refine ⟨T, _, rfl, SqT.of upd_same, rfl, _, _, rfl, _, _, rfl, rfl, ?_⟩
      refine ⟨_, rfl, _, rfl, c, (i : Nat), rfl, by omega, by omega, fun H5 a e5 n5 s5 => ?_⟩
      have e45 := e4.trans e5
      have n2a : H2 a = none := free_of e4 n5
      obtain ⟨xs5, hx5⟩ := s5.there
      refine ⟨_, _, rfl, rfl, ⟨by decide, by decide, by decide⟩, small_le (by decide : 3 ≤ 1000), fun tt ntt => ?_⟩
      have tta : tt ≠ a := Ne.symm (ne_of_none hx5 ntt)
      have eT := e45.trans (sm_new (o := .tup [.int 5, .int 12, .int (10 ^ (15 : Int).toNat)]) ntt)
      have sT := s5.same (sm_new (o := .tup [.int 5, .int 12, .int (10 ^ (15 : Int).toNat)]) ntt)
      have htt0 : upd H5 tt (.tup [.int 5, .int 12, .int (10 ^ (15 : Int).toNat)]) tt = some (.tup [.int 5, .int 12, .int (10 ^ (15 : Int).toNat)]) := upd_same
      generalize hHt : upd H5 tt (.tup [.int 5, .int 12, .int (10 ^ (15 : Int).toNat)]) = Ht at eT sT htt0
      refine ⟨tt, rfl, ⟨_, SqT.of htt0⟩, for_tup (xs := [.int 5, .int 12, .int (10 ^ (15 : Int).toNat)]) (fun i2 σ H' => ∃ w4 w5 w6 w7, σ = [some (.ref sc), some (.int (i : Nat)), some (.int c), some (.ref a), w4, w5, w6, w7, none, none, none] ∧ Kp a Ht H' ∧ IsSrc H' a (500 * i2) ∧ H' tt = some (.tup [.int 5, .int 12, .int (10 ^ (15 : Int).toNat)]))
        ⟨_, _, _, _, rfl, Kp.refl _ _, sT, htt0⟩ (fun i2 σ H' _ ⟨_, _, _, _, _, _, _, e⟩ => SqT.of e) ?_ ?_⟩
      · rintro i2 xw σ2 H9 hxw ⟨w4, w5, w6, w7, rfl, kp9, s9, htt9⟩
        have wide : ∃ M : Int, xw = .int M ∧ 1 ≤ M ∧ M ≤ 10 ^ 15 := by
          have e15 : (10 : Int) ^ (15 : Int).toNat = 10 ^ 15 := by decide
          have m := List.mem_of_getElem? hxw
          simp only [List.mem_cons, List.not_mem_nil, or_false] at m
          rcases m with z | z | z
          · exact ⟨5, z, by decide, by decide⟩
          · exact ⟨12, z, by decide, by decide⟩
          · exact ⟨_, z, by decide, by decide⟩
        obtain ⟨M, rfl, M0, M1⟩ := wide
        have i23 : i2 < 3 := (List.getElem?_eq_some_iff.mp hxw).1
        obtain ⟨xs9, hx9⟩ := s9.there
        -- the dots
        refine ⟨_, rfl, _, _, rfl, rfl, ⟨by decide, by decide, by decide⟩, small_le (by decide : 2 ≤ 1000), fun l5 nl5 => ?_⟩
        have l5a : l5 ≠ a := Ne.symm (ne_of_none hx9 nl5)
        refine ⟨_, rfl, a, 2, _, rfl, s9.same (sm_new nl5), by decide, by decide, by omega, fun H10 d10 k10 s10 d100 d101 => ?_⟩
        obtain ⟨Wd, hWd, Wd0, Wd1⟩ := pickL (ns := [3, (10 : Int) ^ (30 : Int).toNat]) (i := d10) (Pr := fun n => 0 ≤ n ∧ n ≤ 10 ^ 30) (by
          intro n hn
          simp only [List.mem_cons, List.not_mem_nil, or_false] at hn
          rcases hn with z | z <;> subst z <;> exact ⟨by decide, by decide⟩) d100 d101
        refine ⟨l5, _, d10, _, rfl, rfl, SqL.of (k10 _ _ l5a upd_same), hWd, ?_⟩
        have k10' : Kp a H9 H10 := (Kp.of (sm_new nl5)).trans k10
        obtain ⟨xs10, hx10⟩ := s10.there
        refine ⟨a, 20, Wd, _, rfl, s10, by decide, by decide, Wd0, Wd1, by omega, fun H11 p11 ps k11 np11 s11 hps has hlp hbp => ?_⟩
        have p11a : p11 ≠ a := Ne.symm (ne_of_none hx10 np11)
        refine ⟨_, rfl, _, rfl, a, M, _, rfl, s11, M0, M1, by omega, fun H12 v12 t k12 s12 hv12 g => ⟨_, _, rfl, ?_⟩⟩
        have hps12 : Pic H12 (.ref p11) ps := Kp.lst tpl_P k12 s11 p11a hps
        -- the path
        refine ⟨_, rfl, a, 5, _, rfl, s12, by decide, by decide, by omega, fun H13 d13 k13 s13 d130 d131 => ⟨d13, rfl, by omega, by omega, fun D nD => ?_⟩⟩
        obtain ⟨xs13, hx13⟩ := s13.there
        have Da : D ≠ a := Ne.symm (ne_of_none hx13 nD)
        refine lc_range (lo := 0) (n := d13.toNat) (KeepsAt a H13 _ D) (KeepsAt.start s13 nD) (fun i3 H14 hi3 kk14 => ?_) fun H14 kk14 => ?_
        · refine ⟨rfl, yes_ ?_⟩
          rw [if_pos rfl]
          exact ⟨_, rfl, a, _, rfl, kk14.2.1, by omega, fun H15 v15 t15 k15 s15 h15 g15 kp15 => kk14.next nD Da k15 s15 h15 g15 kp15 (by omega)⟩
        obtain ⟨k14, s14, acc, ts, hD, hts, lts, gw⟩ := kk14
        have k914 := ((((k10'.trans k11).trans k12).trans k13).trans k14)
        have hps14 : Pic H14 (.ref p11) ps := Kp.lst tpl_P k14 s13 p11a (Kp.lst tpl_P k13 s12 p11a hps12)
        have hv14 : IsTn H14 v12 t := tpl_T _ _ _ _ ((s12.tsm k13).trans (s13.tsm k14)) hv12
        have hw14 : Way H14 (.ref D) ts := ⟨D, acc, rfl, hD, hts⟩
        refine ⟨_, rfl, _, rfl, _, v12, ps, t, rfl, hps14, has, by omega, hbp.mono (by omega), hv14, g, canon_few (by omega), fun H15 e15 => ⟨true, rfl, ?_⟩⟩
        refine iteF ?_
        have s15 := s14.same e15
        refine ⟨_, rfl, _, rfl, _, rfl, _, rfl, a, p11, D, v12, ps, t, ts, _, rfl, s15, by omega, p11a, Da, Pic.same e15 hps14, has, by omega, hbp, hv14.same e15, g, Way.same e15 hw14, gw, by omega, fun H16 k16 s16 => ⟨true, rfl, ?_⟩⟩
        refine iteF ?_
        have k916 := (k914.trans (Kp.of e15)).trans k16
        have hw16 : Way H16 (.ref D) ts := Kp.lst tpl_T k16 s15 Da (Way.same e15 hw14)
        have hps16 : Pic H16 (.ref p11) ps := Kp.lst tpl_P k16 s15 p11a (Pic.same e15 hps14)
        obtain ⟨D', acc16, eD, hD16, hts16⟩ := hw16
        cases eD
        refine ⟨_, rfl, Nat.zero_le _, fun l6 nl6 => ?_⟩
        have e6 := sm_new (o := .lst []) nl6
        refine ⟨.list (ts.map encT), .list [], .lst (SqL.of (e6 _ _ hD16)) (dpAll_T (Paired.imp (fun x d q => tpl_T _ _ x d (sm_t e6) q) hts16)), .lst (SqL.of upd_same) .nil, shaped_Tn ts, shaped_0, _, rfl, ?_⟩
        have s17 := s16.same e6
        have k917 := k916.trans (Kp.of e6)
        have done : ∀ H', Same (upd H16 l6 (.lst [])) H' → ∃ w4 w5 w6 w7, ([some (.ref sc), some (.int (i : Nat)), some (.int c), some (.ref a), some (.int M), some (.ref p11), some v12, some (.ref D), none, none, none] : L2.St) = [some (.ref sc), some (.int (i : Nat)), some (.int c), some (.ref a), w4, w5, w6, w7, none, none, none] ∧ Kp a Ht H' ∧ IsSrc H' a (500 * (i2 + 1)) ∧ H' tt = some (.tup [.int 5, .int 12, .int (10 ^ (15 : Int).toNat)]) := fun H' e' => by
          have kk' := (kp9.trans k917).trans (Kp.of e')
          exact ⟨_, _, _, _, rfl, kk', (s17.same e').mono (by omega), kk' _ _ tta htt0⟩
        cases ts with
        | nil =>
          refine ifC rfl ?_
          show if false = true then _ else _
          exact iteF (done _ (Same.refl _))
        | cons t1 ts1 =>
          refine ifB rfl ?_
          cases hts16 with
          | cons h1 htl =>
            refine ⟨_, rfl, _, rfl, D, _, 0, _, rfl, rfl, SqL.of (e6 _ _ hD16), atI_nat (j := 0) rfl, _, _, ps, t1, rfl, Pic.same e6 hps16, has, by omega, hbp.mono (by omega), h1.same e6, (gw t1 List.mem_cons_self).1, canon_few (by omega), fun H18 e18 => ⟨true, rfl, ?_⟩⟩
            show if false = true then _ else _
            exact iteF (done _ e18)
      · rintro σ2 H9 ⟨w4, w5, w6, w7, rfl, kp9, s9, htt9⟩
        have e9 := same_kp eT n2a kp9
        have s9 : IsSrc H9 a 1500 := s9.mono (by show 500 * 3 ≤ 1500; decide)
        refine ⟨_, rfl, rfl, _, rfl, ?_⟩
        by_cases i0 : i = 0
        · refine ifD (by rw [i0] <;> rfl) ?_
          refine ⟨_, rfl, Nat.zero_le _, fun l7 nl7 => ?_⟩
          have e7 := sm_new (o := .lst []) nl7
          refine ⟨.list (zs.map PyData.int), .list [], .lst (Same.seq ((eS2.trans e9).trans e7) hsc) (dpAll_I zs), .lst (SqL.of upd_same) .nil, shaped_I zs, shaped_0, _, rfl, ?_⟩
          have s10 := s9.same e7
          have e10 := e9.trans e7
          by_cases zn : zs = []
          · refine ifC (by rw [ne_nil, zn] <;> rfl) ?_
            exact ⟨_, _, _, _, _, _, _, rfl, e10⟩
          · refine ifB (by
              rw [ne_nil]
              cases zs with
              | nil => exact absurd rfl zn
              | cons z zs => rfl) ?_
            obtain ⟨xs10, hx10⟩ := s10.there
            refine ⟨120, rfl, by decide, by decide, fun D nD => ?_⟩
            have Da : D ≠ a := Ne.symm (ne_of_none hx10 nD)
            refine lc_range (lo := 0) (n := 120) (KeepsAt a _ _ D) (KeepsAt.start s10 nD) (fun i3 H14 hi3 kk14 => ?_) fun H14 kk14 => ?_
            · refine ⟨rfl, yes_ ?_⟩
              rw [if_pos rfl]
              exact ⟨_, rfl, a, _, rfl, kk14.2.1, by omega, fun H15 v15 t15 k15 s15 h15 g15 kp15 => kk14.next nD Da k15 s15 h15 g15 kp15 (by omega)⟩
            obtain ⟨k14, s14, acc, ts, hD, hts, lts, gw⟩ := kk14
            obtain ⟨xs14, hx14⟩ := s14.there
            refine ⟨_, rfl, _, rfl, a, 4, 9, _, rfl, s14, by decide, by decide, by decide, by decide, by omega, fun H16 p16 ps k16 np16 s16 hps has hlp hbp => ?_⟩
            have p16a : p16 ≠ a := Ne.symm (ne_of_none hx14 np16)
            refine ⟨_, rfl, a, 9, _, rfl, s16, by decide, by decide, by omega, fun H17 v17 t k17 s17 hv17 g => ?_⟩
            have hw17 : Way H17 (.ref D) ts := Kp.lst tpl_T k17 s16 Da (Kp.lst tpl_T k16 s14 Da ⟨D, acc, rfl, hD, hts⟩)
            refine ⟨_, rfl, a, p16, D, v17, ps, t, ts, _, rfl, s17, by omega, p16a, Da, Kp.lst tpl_P k17 s16 p16a hps, has, by omega, hbp, hv17, g, hw17, gw, by omega, fun H18 k18 s18 => ⟨true, rfl, ?_⟩⟩
            refine iteF ?_
            exact ⟨_, _, _, _, _, _, _, rfl, same_kp e10 n2a (((k14.trans k16).trans k17).trans k18)⟩
        · refine ifN (fun z => i0 (by have := V.int.inj z; omega)) ?_
          show if false = true then _ else _
          exact iteF ⟨_, _, _, _, _, _, _, rfl, e9⟩
    · rintro σ H3 ⟨v1, v2, v3, v4, v5, v6, v7, rfl, e3⟩
      refine ⟨81, rfl, by decide, by decide, fun D nD => ?_⟩
      refine lc_range (lo := 0) (n := 81) (fun i H' => Same H3 H' ∧ ∃ acc, H' D = some (.lst acc) ∧ Paired (IsP H') acc (everyL.take i)) ⟨sm_new nD, [], upd_same, .nil⟩ (fun i H4 hi ⟨e4, acc, hacc, hp⟩ => ?_) fun H4 ⟨e4, acc, hacc, hp⟩ => ?_
      · refine ⟨rfl, yes_ ?_⟩
        rw [if_pos rfl]
        refine ⟨_, rfl, _, _, rfl, rfl, wide_div (b := 10) (by decide) (by decide) (by decide) (by decide), _, rfl, .inl ⟨_, rfl, _, _, rfl, rfl, by show (0 : Int) < 9; decide, small_le (by decide : 2 ≤ 1000), fun p np => ?_⟩⟩
        have e5 := sm_new (o := .tup [.int ((0 + ((i : Nat) : Int)) / 9), .int ((0 + ((i : Nat) : Int)) % 9)]) np
        have hz : everyL[i]? = some ((((i : Nat) : Int) / 9, ((i : Nat) : Int) % 9)) := by
          unfold everyL
          rw [List.getElem?_map, List.getElem?_range hi]
          rfl
        have la : acc.length = i := by
          rw [hp.length, List.length_take]
          have : everyL.length = 81 := by decide +kernel
          omega
        refine ⟨acc, e5 _ _ hacc, small_lt (by omega), sm_mut (e4.trans e5) nD, _, upd_same, ?_⟩
        have t1 : TSm (upd H4 p (.tup [.int ((0 + ((i : Nat) : Int)) / 9), .int ((0 + ((i : Nat) : Int)) % 9)])) (upd (upd H4 p (.tup [.int ((0 + ((i : Nat) : Int)) / 9), .int ((0 + ((i : Nat) : Int)) % 9)])) D (.lst (acc ++ [.ref p]))) := TSm.lst (e5 _ _ hacc)
        rw [take_snoc hz]
        refine Paired.more (Paired.imp (fun x d q => tpl_P _ _ x d ((sm_t e5).trans t1) q) hp) ⟨p, rfl, ?_⟩
        exact (t1 _ _ (upd_same (H := H4) (a := p))).trans (by rw [Int.zero_add])
      have hE : Pic H4 (.ref D) everyL := ⟨D, acc, rfl, hacc, by rwa [List.take_of_length_le (by decide +kernel)] at hp⟩
      refine ⟨_, rfl, small_le (by decide : 3 ≤ 1000), fun q nq => ?_⟩
      refine ⟨_, _, everyL, (4, 1, 2), rfl, Pic.same (sm_new nq) hE, every_asc, by decide +kernel, every_bd, ⟨q, rfl, upd_same⟩, good412, every_few, fun H5 e5 => ⟨true, rfl, ?_⟩⟩
      refine iteT ?_
      refine ⟨Nat.zero_le _, fun l nl => ⟨small_le (by decide : 3 ≤ 1000), fun q2 nq2 => ?_⟩⟩
      exact ⟨_, _, [], (3, 2, 0), rfl, ⟨l, [], rfl, sm_new nq2 _ _ upd_same, .nil⟩, .nil, by decide, fun z hz => (nomatch hz), ⟨q2, rfl, upd_same⟩, good320, by unfold Few; decide, fun H6 _ => kk H6⟩

end
end TP


set_option Elab.async false
set_option linter.all false
set_option maxRecDepth 100000
set_option maxHeartbeats 4000000
/-! what the head tells: functions wherever they stand (methods, getters, an __init__ with its cell) -/
namespace TP
open PySem PySem.Spec PyProof.Rows L2 NdefX
abbrev FnY : Type := Option (Str × Str × Arguments × FuncBody × Scope × Addr × List Str × Addr)
def fnY (K : PySem.W.Frag) (a : Addr) : FnY := match K.lookup a with
  | some ⟨_, _, .func fd, _⟩ => some (fd.name, fd.qualname, fd.params, fd.body, fd.scope, fd.globals, fd.closure.map (·.1), fd.builtins)
  | _ => none
structure At where
  adr : PySem.W.Frag → Addr
  name : Str
  qual : Str
  st : Stmt
  clo : List Str := []
def At.val (d : At) : FnY := some (d.name, d.qual, defArgs d.st, .stmts (defBody d.st), defScope d.st, mainGlobals, d.clo, builtinsNs)
def At.ok (K : PySem.W.Frag) (d : At) : Bool := PySem.W.keepIn K (.ref (d.adr K)) && (match K.lookup (d.adr K) with
  | some ⟨_, _, .func fd, _⟩ => PySem.W.codeIn K fd.code d.qual && He.dflB K fd.defaults []
  | _ => false)
theorem At.funD {K : PySem.W.Frag} {d : At} (e : fnY K (d.adr K) = d.val) (c : d.ok K = true) (hc : d.clo = []) : ∃ fd, FunD K d.name d.qual (defArgs d.st) (defBody d.st) (defScope d.st) [] [] (d.adr K) fd := by
  obtain ⟨kp, c2⟩ := He.ba c
  unfold fnY At.val at e
  rw [hc] at e
  cases q : K.lookup (d.adr K) with
  | none =>
    rw [q] at c2
    cases c2
  | some o =>
    obtain ⟨oc, od, dt, osl⟩ := o
    rw [q] at c2 e
    cases dt with
    | func fd =>
      obtain ⟨a1, a2, a3, a4, a5, a6, a7, a8, a9, a10, a11, a12, a13, a14, a15⟩ := fd
      have z : (some (a1, a2, a3, a4, a5, a6, a7.map (·.1), a15) : FnY) = some (d.name, d.qual, defArgs d.st, .stmts (defBody d.st), defScope d.st, mainGlobals, [], builtinsNs) := e
      simp only [Option.some.injEq, Prod.mk.injEq, List.map_eq_nil_iff] at z
      obtain ⟨e1, e2, e3, e4, e5, e6, e7, e8⟩ := z
      subst e1 e2 e3 e4 e5 e6 e7 e8
      obtain ⟨k1, k2⟩ := He.ba (show (PySem.W.codeIn K a13 d.qual && He.dflB K a8 []) = true from c2)
      exact ⟨_, ⟨oc, od, a8, a9, a10, a11, a12, a13, a14, osl, rfl, q, k1, He.dflB_ok k2, .inl rfl⟩, kp⟩
    | _ => cases c2
theorem At.funX {K : PySem.W.Frag} {d : At} {x : Str} (e : fnY K (d.adr K) = d.val) (c : d.ok K = true) (hc : d.clo = [x]) :
    ∃ oc od osl dV kV doc pm an cdv ct cc, K.lookup (d.adr K) = some ⟨oc, od, .func (PySem.W.fnX d.name d.qual (defArgs d.st) (defBody d.st) (defScope d.st) [(x, cc)] dV kV doc pm an cdv ct), osl⟩ ∧ PySem.W.codeIn K cdv d.qual = true ∧ dV = .none := by
  obtain ⟨kp, c2⟩ := He.ba c
  unfold fnY At.val at e
  rw [hc] at e
  cases q : K.lookup (d.adr K) with
  | none =>
    rw [q] at c2
    cases c2
  | some o =>
    obtain ⟨oc, od, dt, osl⟩ := o
    rw [q] at c2 e
    cases dt with
    | func fd =>
      obtain ⟨a1, a2, a3, a4, a5, a6, a7, a8, a9, a10, a11, a12, a13, a14, a15⟩ := fd
      have z : (some (a1, a2, a3, a4, a5, a6, a7.map (·.1), a15) : FnY) = some (d.name, d.qual, defArgs d.st, .stmts (defBody d.st), defScope d.st, mainGlobals, [x], builtinsNs) := e
      simp only [Option.some.injEq, Prod.mk.injEq] at z
      obtain ⟨e1, e2, e3, e4, e5, e6, e7, e8⟩ := z
      subst e1 e2 e3 e4 e5 e6 e8
      obtain ⟨k1, k2⟩ := He.ba (show (PySem.W.codeIn K a13 d.qual && He.dflB K a8 []) = true from c2)
      have hd : a8 = .none := by
        have z := He.dflB_ok k2
        rcases z with ⟨_, z⟩ | ⟨z, _⟩
        · exact z
        · exact absurd rfl z
      match a7, e7 with
      | [(y, cc)], e7 =>
        have ey : y = x := by simpa using e7
        subst ey
        exact ⟨oc, od, osl, a8, a9, a10, a11, a12, a13, a14, cc, rfl, k1, hd⟩
    | _ => cases c2
/-! ### properties -/
def getterOf (K : PySem.W.Frag) (p : Addr) : Addr := match PySem.W.recIn K p "property" with
  | some (.ref g :: _) => g
  | _ => 0
def pAd (x m : Str) (K : PySem.W.Frag) : Addr := He.ma K (He.ga K x) m
def gAd (x m : Str) (K : PySem.W.Frag) : Addr := getterOf K (pAd x m K)
def propB (K : PySem.W.Frag) (q : Str × Str) : Bool := He.eqO (PySem.W.findIn K (.ref (He.ga K q.1)) q.2) (some (some (.ref (pAd q.1 q.2 K)))) && (He.eqO (PySem.W.specialIn K (.ref (pAd q.1 q.2 K)) "__get__") (some (some (.builtin "property.__get__"))) && (decide (PySem.W.takesIn K (.ref (pAd q.1 q.2 K)) = some true) && (match PySem.W.recIn K (pAd q.1 q.2 K) "property" with
  | some (.ref _ :: _) => true
  | _ => false)))
theorem prop_ok {K : PySem.W.Frag} {x m : Str} (h : propB K (x, m) = true) : PropOf K (He.ga K x) m (pAd x m K) (gAd x m K) := by
  obtain ⟨h1, h⟩ := He.ba h
  obtain ⟨h2, h⟩ := He.ba h
  obtain ⟨h3, h4⟩ := He.ba h
  refine ⟨He.eqO_ok h1, He.eqO_ok h2, of_decide_eq_true h3, ?_⟩
  have h5 : (match PySem.W.recIn K (pAd x m K) "property" with
    | some (.ref _ :: _) => true
    | _ => false) = true := h4
  unfold gAd getterOf
  cases e : PySem.W.recIn K (pAd x m K) "property" with
  | none =>
    rw [e] at h5
    cases h5
  | some l =>
    rw [e] at h5
    match l, h5 with
    | .ref g :: r, _ => exact ⟨r, rfl⟩
/-! ### the exception -/
def oexB (K : PySem.W.Frag) (C : Addr) : Bool := (match K.lookup C with
  | some ⟨.type t, _, .cls cd, sl⟩ => (match cd.mro, sl.toList with
    | .ref C' :: bm, [_, _, _, _, some (.builtin n), _] => decide (t = "type") && (decide (C' = C) && (decide (n = "ValueError.__new__") && (!cd.hasDel && (cd.hasDict && PySem.HandSPX.refsVE bm))))
    | _, _ => false)
  | _ => false) && (He.eqO (PySem.W.findIn K (.ref C) "__setattr__") (some (some (.builtin "object.__setattr__"))) && (decide (PySem.W.subIn K (.ref C) (.type "BaseException") = some true) && (decide (PySem.W.typeIn K (.ref C) = some (.type "type")) && PySem.W.keepIn K (.ref C))))
theorem oex_ok {K : PySem.W.Frag} {C : Addr} (h : oexB K C = true) : OexC K C := by
  obtain ⟨h1, h⟩ := He.ba h
  obtain ⟨h2, h⟩ := He.ba h
  obtain ⟨h3, h⟩ := He.ba h
  obtain ⟨h4, h5⟩ := He.ba h
  refine ⟨?_, He.eqO_ok h2, of_decide_eq_true h3, of_decide_eq_true h4, h5⟩
  split at h1
  · rename_i t dd cd sl e
    split at h1
    · rename_i C' bm k0 k1 k2 k3 n k5 hm hs
      obtain ⟨g0, h1⟩ := He.ba h1
      obtain ⟨g1, h1⟩ := He.ba h1
      obtain ⟨g2, h1⟩ := He.ba h1
      obtain ⟨g3, h1⟩ := He.ba h1
      obtain ⟨g4, g5⟩ := He.ba h1
      have e0 : t = "type" := of_decide_eq_true g0
      have e1 : C' = C := of_decide_eq_true g1
      have e2 : n = "ValueError.__new__" := of_decide_eq_true g2
      subst e0 e1 e2
      obtain ⟨nm, bs, mro, ns, qn, hd, sn, sub, ab, col, del⟩ := cd
      dsimp only at hm g3 g4
      have hdel : del = false := by simpa using g3
      subst hm hdel g4
      obtain ⟨sl⟩ := sl
      dsimp only at hs
      subst hs
      exact ⟨nm, qn, ns, bs, bm, sn, sub, ab, col, dd, k0, k1, k2, k3, k5, e, g5⟩
    · cases h1
  · cases h1
def lostB (file : Str) (K : PySem.W.Frag) : Bool := oexB K (He.ga K "Lost") && (xfB K (He.ga K "Lost") && (He.eqO (PySem.W.findIn K (.ref (He.ga K "Lost")) "number") (some none) && (He.eqO (PySem.W.findIn K (.ref (He.ga K "Lost")) "__init__") (some (some (.ref (pAd "Lost" "__init__" K)))) && (decide (PySem.W.typeIn K (.ref (pAd "Lost" "__init__" K)) = some (.type "function")) && (decide (PySem.W.exmOne K (.ref (He.ga K "Lost")) (.ref (He.ga K "Lost")) = some true) && (decide (PySem.W.mroIn K (He.ga K "Lost") (.ref (He.ga K "Lost")) = some true) && (He.eqO (PySem.W.nsIn K cStatics "thirdparty.any") (some none) && (He.eqO (PySem.W.ks_superIn K (He.ga K "Lost") (He.ga K "Lost") "__init__") (some (some (.builtin "ValueError.__init__"))) && (decide (PySem.W.subIn K (.ref (He.ga K "Lost")) (.type "ValueError") = some true) && (match K.lookup (pAd "Lost" "__init__" K) with
  | some ⟨_, _, .func fd, _⟩ => (match fd.closure, fd.code with
    | [(_, cc)], .ref cda => (match K.lookup cda with
      | some ⟨_, _, .fields vs, _⟩ => (match (vs[2]? : Option Value) with
        | some (.str f _) => file == f
        | _ => false)
      | _ => false) && (match K.lookup cc with
      | some ⟨_, _, .cell (some (.ref D)), _⟩ => decide (D = He.ga K "Lost")
      | _ => false)
    | _, _ => false)
  | _ => false))))))))))
/-! ### the hook -/
/-- what an object names, of what is looked at -/
def refsY (o : Obj) : List Addr := match o.data with
  | .dict es _ => es.toList.flatMap fun e => He.refV e.val
  | .func fd => He.refV fd.code ++ fd.closure.map (·.2)
  | .cls cd => [cd.ns]
  | .fields vs => (match o.cls with
    | .type n => if n = "property" then vs.toList.flatMap He.refV else []
    | _ => [])
  | _ => []
def growY (g : Addr → Option Obj) (new : List Addr) : List Addr := new.flatMap fun a => match g a with
  | some o => refsY o
  | none => []
def asF (g : Addr → Option Obj) : Nat → List Addr → List Addr
  | 0, _ => []
  | n + 1, new => new ++ asF g n (growY g new)
def asY (g : Addr → Option Obj) (n : Nat) : List Addr := cStatics :: asF g n [mainGlobals]
abbrev AlY : Type := Bool × List FnY
def obsY (fa : List He.Fa) (ds : List At) (ps : List (Str × Str)) (file : Str) (K : PySem.W.Frag) : AlY := ((fa.all fun f => f.ok K) && ((ds.all fun d => d.ok K) && ((ps.all fun q => propB K q) && lostB file K)), ds.map fun d => fnY K (d.adr K))
def valY (ds : List At) : AlY := (true, ds.map At.val)
def SaysY (fa : List He.Fa) (ds : List At) (ps : List (Str × Str)) (file : Str) (K : PySem.W.Frag) : Prop := obsY fa ds ps file K = valY ds
def obsYG (n : Nat) (fa : List He.Fa) (ds : List At) (ps : List (Str × Str)) (file : Str) (g : Addr → Option Obj) : AlY := obsY fa ds ps file (He.frG g (asY g n))
def hookY (n : Nat) (fa : List He.Fa) (ds : List At) (ps : List (Str × Str)) (file : Str) : PySem.W.Hook where
  α := AlY
  obs := fun s => obsYG n fa ds ps file s.heap.get?
  val := fun _ => valY ds
  says := fun _ h => ∃ K : PySem.W.Frag, K.In h ∧ SaysY fa ds ps file K
  of := fun _ _ e => ⟨_, He.frG_in, e⟩
  keeps := fun _ _ _ ⟨K, hK, c⟩ k => ⟨K, PySem.W.Frag.In.keeps hK k, c⟩
theorem obsYG_eq {n : Nat} {fa : List He.Fa} {ds : List At} {ps : List (Str × Str)} {file : Str} {g : Addr → Option Obj} {s : Shared} (h : ∀ a, g a = s.heap.get? a) : obsYG n fa ds ps file g = (hookY n fa ds ps file).obs s := by
  have e : g = s.heap.get? := funext h
  rw [e] <;> rfl
section
variable {fa : List He.Fa} {ds : List At} {ps : List (Str × Str)} {file : Str} {K : PySem.W.Frag}
theorem SaysY.all (c : SaysY fa ds ps file K) : (∀ f ∈ fa, f.ok K = true) ∧ (∀ d ∈ ds, d.ok K = true ∧ fnY K (d.adr K) = d.val) ∧ (∀ q ∈ ps, propB K q = true) ∧ lostB file K = true := by
  have h := show ((fa.all fun f => f.ok K) && ((ds.all fun d => d.ok K) && ((ps.all fun q => propB K q) && lostB file K))) = true from congrArg (fun z : AlY => z.1) c
  have e : ds.map (fun d => fnY K (d.adr K)) = ds.map At.val := congrArg (fun z : AlY => z.2) c
  obtain ⟨h1, h⟩ := He.ba h
  obtain ⟨h2, h⟩ := He.ba h
  obtain ⟨h3, h4⟩ := He.ba h
  exact ⟨fun f hf => List.all_eq_true.mp h1 f hf, fun d hd => ⟨List.all_eq_true.mp h2 d hd, List.map_inj_left.mp e d hd⟩, fun q hq => List.all_eq_true.mp h3 q hq, h4⟩
end
theorem mkr_of {P : Program} {w : World} {K : PySem.W.Frag} {mg : Str → Option Value} {base : Heap} {k : Nat} {x : Str} {C f : Addr} {sp : Sp} (M : Mk K C f) (h : MU P w K mg base C8.CX0 k "__init__" C sp) (hm : mg x = some (.ref C)) : Mkr P w K mg base k x C sp := by
  obtain ⟨f2, fd, ps, c, m, F, b⟩ := h.ex
  have e := M.init.symm.trans m.at_
  cases e
  exact ⟨f, fd, ps, M, hm, F, b⟩
end TP


set_option Elab.async false
set_option linter.all false
set_option maxRecDepth 100000
set_option maxHeartbeats 0
namespace TP
open PySem PySem.Spec PyProof.Rows L2 NdefX
open C8 (Cal)
def fa0 : List He.Fa := [.free "isinstance",
  .free "int",
  .free "bool",
  .free "tuple",
  .free "list",
  .free "set",
  .free "str",
  .free "len",
  .free "all",
  .free "abs",
  .free "range",
  .free "enumerate",
  .free "zip",
  .free "sorted",
  .free "max",
  .free "min",
  .free "super",
  .int "MOST_P" 1000000000000000,
  .int "MOST_PIXELS" 400,
  .int "MOST_ITEMS" 120,
  .glo "is_integer",
  .glo "are_integers",
  .glo "is_pixel",
  .glo "common",
  .glo "is_turn"]
def fa1 : List He.Fa := [.glo "need_turn",
  .glo "need_pixel",
  .glo "size_of",
  .glo "plain_legs",
  .glo "quartered",
  .glo "nearest",
  .glo "plain_place",
  .glo "plain_image",
  .glo "image_in",
  .glo "back_of",
  .glo "back",
  .glo "need_pixels",
  .glo "stepped",
  .glo "stepped_back",
  .glo "after_steps",
  .glo "before_steps",
  .glo "is_keeping",
  .glo "lowest",
  .glo "keeps_all",
  .glo "need_order",
  .glo "need_sheared",
  .glo "chain_in",
  .glo "shear_chain",
  .glo "sheared",
  .glo "unsheared"]
def fa2 : List He.Fa := [.glo "way_fault",
  .glo "need_way",
  .glo "along",
  .glo "walked",
  .glo "way_bound",
  .glo "need_turn_and_picture",
  .glo "images_of",
  .glo "is_picture",
  .glo "turned_picture",
  .glo "lost_number",
  .glo "meetings_in",
  .glo "there_and_back",
  .glo "sheared_picture",
  .glo "walked_picture",
  .glo "_law_source",
  .glo "_law_draw",
  .glo "_law_common",
  .glo "_law_spin",
  .glo "_law_dot",
  .glo "_law_dots",
  .glo "_law_keeper",
  .glo "_law_turned_right",
  .glo "_law_walked_right",
  .glo "law",
  .glo "Canvas"]
def fa3 : List He.Fa := [.glo "KeepingCanvas",
  .glo "CountingCanvas",
  .glo "KeepingCountingCanvas",
  .glo "Lost",
  .cls "Canvas",
  .mkr "Canvas",
  .noat "Canvas" "first_dots",
  .noat "Canvas" "here_dots",
  .noat "Canvas" "told_deeds",
  .noat "Canvas" "past_dots",
  .cls "KeepingCanvas",
  .mkr "KeepingCanvas",
  .noat "KeepingCanvas" "first_dots",
  .noat "KeepingCanvas" "here_dots",
  .noat "KeepingCanvas" "told_deeds",
  .noat "KeepingCanvas" "past_dots",
  .cls "CountingCanvas",
  .mkr "CountingCanvas",
  .noat "CountingCanvas" "first_dots",
  .noat "CountingCanvas" "here_dots",
  .noat "CountingCanvas" "told_deeds",
  .noat "CountingCanvas" "past_dots",
  .cls "KeepingCountingCanvas",
  .mkr "KeepingCountingCanvas",
  .noat "KeepingCountingCanvas" "first_dots"]
def fa4 : List He.Fa := [.noat "KeepingCountingCanvas" "here_dots",
  .noat "KeepingCountingCanvas" "told_deeds",
  .noat "KeepingCountingCanvas" "past_dots",
  .meth "Canvas" "__init__",
  .meth "Canvas" "__len__",
  .meth "Canvas" "go_on",
  .meth "Canvas" "turn",
  .meth "Canvas" "shear",
  .meth "Canvas" "walk",
  .meth "Canvas" "check_turned",
  .meth "KeepingCanvas" "__init__",
  .meth "KeepingCanvas" "__len__",
  .meth "KeepingCanvas" "go_on",
  .meth "KeepingCanvas" "turn",
  .meth "KeepingCanvas" "shear",
  .meth "KeepingCanvas" "walk",
  .meth "KeepingCanvas" "check_turned",
  .meth "CountingCanvas" "__init__",
  .meth "CountingCanvas" "__len__",
  .meth "CountingCanvas" "go_on",
  .meth "CountingCanvas" "turn",
  .meth "CountingCanvas" "shear",
  .meth "CountingCanvas" "walk",
  .meth "CountingCanvas" "check_turned",
  .meth "CountingCanvas" "lost_number"]
def fa5 : List He.Fa := [.meth "KeepingCountingCanvas" "__init__",
  .meth "KeepingCountingCanvas" "__len__",
  .meth "KeepingCountingCanvas" "go_on",
  .meth "KeepingCountingCanvas" "turn",
  .meth "KeepingCountingCanvas" "shear",
  .meth "KeepingCountingCanvas" "walk",
  .meth "KeepingCountingCanvas" "check_turned",
  .meth "KeepingCountingCanvas" "lost_number"]
def fa : List He.Fa := fa0 ++ fa1 ++ fa2 ++ fa3 ++ fa4 ++ fa5
def ats0 : List At := [⟨fun K => He.ga K "is_integer", "is_integer", "is_integer", top 12, []⟩,
  ⟨fun K => He.ga K "are_integers", "are_integers", "are_integers", top 13, []⟩,
  ⟨fun K => He.ga K "is_pixel", "is_pixel", "is_pixel", top 15, []⟩,
  ⟨fun K => He.ga K "common", "common", "common", top 14, []⟩,
  ⟨fun K => He.ga K "is_turn", "is_turn", "is_turn", top 16, []⟩,
  ⟨fun K => He.ga K "need_turn", "need_turn", "need_turn", top 17, []⟩,
  ⟨fun K => He.ga K "need_pixel", "need_pixel", "need_pixel", top 18, []⟩,
  ⟨fun K => He.ga K "size_of", "size_of", "size_of", top 20, []⟩,
  ⟨fun K => He.ga K "plain_legs", "plain_legs", "plain_legs", top 21, []⟩,
  ⟨fun K => He.ga K "quartered", "quartered", "quartered", top 22, []⟩,
  ⟨fun K => He.ga K "nearest", "nearest", "nearest", top 23, []⟩,
  ⟨fun K => He.ga K "plain_place", "plain_place", "plain_place", top 24, []⟩,
  ⟨fun K => He.ga K "plain_image", "plain_image", "plain_image", top 25, []⟩,
  ⟨fun K => He.ga K "image_in", "image_in", "image_in", top 26, []⟩,
  ⟨fun K => He.ga K "back_of", "back_of", "back_of", top 27, []⟩,
  ⟨fun K => He.ga K "back", "back", "back", top 28, []⟩,
  ⟨fun K => He.ga K "need_pixels", "need_pixels", "need_pixels", top 19, []⟩,
  ⟨fun K => He.ga K "stepped", "stepped", "stepped", top 30, []⟩,
  ⟨fun K => He.ga K "stepped_back", "stepped_back", "stepped_back", top 31, []⟩,
  ⟨fun K => He.ga K "after_steps", "after_steps", "after_steps", top 32, []⟩,
  ⟨fun K => He.ga K "before_steps", "before_steps", "before_steps", top 33, []⟩,
  ⟨fun K => He.ga K "is_keeping", "is_keeping", "is_keeping", top 35, []⟩,
  ⟨fun K => He.ga K "lowest", "lowest", "lowest", top 36, []⟩,
  ⟨fun K => He.ga K "keeps_all", "keeps_all", "keeps_all", top 37, []⟩,
  ⟨fun K => He.ga K "need_order", "need_order", "need_order", top 39, []⟩]
def ats1 : List At := [⟨fun K => He.ga K "need_sheared", "need_sheared", "need_sheared", top 40, []⟩,
  ⟨fun K => He.ga K "chain_in", "chain_in", "chain_in", top 41, []⟩,
  ⟨fun K => He.ga K "shear_chain", "shear_chain", "shear_chain", top 42, []⟩,
  ⟨fun K => He.ga K "sheared", "sheared", "sheared", top 43, []⟩,
  ⟨fun K => He.ga K "unsheared", "unsheared", "unsheared", top 44, []⟩,
  ⟨fun K => He.ga K "way_fault", "way_fault", "way_fault", top 47, []⟩,
  ⟨fun K => He.ga K "need_way", "need_way", "need_way", top 48, []⟩,
  ⟨fun K => He.ga K "along", "along", "along", top 49, []⟩,
  ⟨fun K => He.ga K "walked", "walked", "walked", top 50, []⟩,
  ⟨fun K => He.ga K "way_bound", "way_bound", "way_bound", top 51, []⟩,
  ⟨fun K => He.ga K "need_turn_and_picture", "need_turn_and_picture", "need_turn_and_picture", top 53, []⟩,
  ⟨fun K => He.ga K "images_of", "images_of", "images_of", top 54, []⟩,
  ⟨fun K => He.ga K "is_picture", "is_picture", "is_picture", top 55, []⟩,
  ⟨fun K => He.ga K "turned_picture", "turned_picture", "turned_picture", top 56, []⟩,
  ⟨fun K => He.ga K "lost_number", "lost_number", "lost_number", top 57, []⟩,
  ⟨fun K => He.ga K "meetings_in", "meetings_in", "meetings_in", top 58, []⟩,
  ⟨fun K => He.ga K "there_and_back", "there_and_back", "there_and_back", top 59, []⟩,
  ⟨fun K => He.ga K "sheared_picture", "sheared_picture", "sheared_picture", top 60, []⟩,
  ⟨fun K => He.ga K "walked_picture", "walked_picture", "walked_picture", top 61, []⟩,
  ⟨fun K => He.ga K "_law_source", "_law_source", "_law_source", top 68, []⟩,
  ⟨fun K => He.ga K "_law_draw", "_law_draw", "_law_draw", top 69, []⟩,
  ⟨fun K => He.ga K "_law_common", "_law_common", "_law_common", top 70, []⟩,
  ⟨fun K => He.ga K "_law_spin", "_law_spin", "_law_spin", top 71, []⟩,
  ⟨fun K => He.ga K "_law_dot", "_law_dot", "_law_dot", top 72, []⟩,
  ⟨fun K => He.ga K "_law_dots", "_law_dots", "_law_dots", top 73, []⟩]
def ats2 : List At := [⟨fun K => He.ga K "_law_keeper", "_law_keeper", "_law_keeper", top 74, []⟩,
  ⟨fun K => He.ga K "_law_turned_right", "_law_turned_right", "_law_turned_right", top 75, []⟩,
  ⟨fun K => He.ga K "_law_walked_right", "_law_walked_right", "_law_walked_right", top 76, []⟩,
  ⟨fun K => He.ga K "law", "law", "law", top 77, []⟩,
  ⟨pAd "Canvas" "__init__", "__init__", "Canvas.__init__", meth 63 1, []⟩,
  ⟨pAd "Canvas" "__len__", "__len__", "Canvas.__len__", meth 63 2, []⟩,
  ⟨pAd "Canvas" "go_on", "go_on", "Canvas.go_on", meth 63 6, []⟩,
  ⟨pAd "Canvas" "turn", "turn", "Canvas.turn", meth 63 9, []⟩,
  ⟨pAd "Canvas" "shear", "shear", "Canvas.shear", meth 63 10, []⟩,
  ⟨pAd "Canvas" "walk", "walk", "Canvas.walk", meth 63 11, []⟩,
  ⟨pAd "Canvas" "check_turned", "check_turned", "Canvas.check_turned", meth 63 4, []⟩,
  ⟨pAd "KeepingCanvas" "__init__", "__init__", "Canvas.__init__", meth 63 1, []⟩,
  ⟨pAd "KeepingCanvas" "__len__", "__len__", "Canvas.__len__", meth 63 2, []⟩,
  ⟨pAd "KeepingCanvas" "go_on", "go_on", "Canvas.go_on", meth 63 6, []⟩,
  ⟨pAd "KeepingCanvas" "turn", "turn", "Canvas.turn", meth 63 9, []⟩,
  ⟨pAd "KeepingCanvas" "shear", "shear", "Canvas.shear", meth 63 10, []⟩,
  ⟨pAd "KeepingCanvas" "walk", "walk", "Canvas.walk", meth 63 11, []⟩,
  ⟨pAd "KeepingCanvas" "check_turned", "check_turned", "KeepingCanvas.check_turned", meth 64 1, []⟩,
  ⟨pAd "CountingCanvas" "__init__", "__init__", "Canvas.__init__", meth 63 1, []⟩,
  ⟨pAd "CountingCanvas" "__len__", "__len__", "Canvas.__len__", meth 63 2, []⟩,
  ⟨pAd "CountingCanvas" "go_on", "go_on", "Canvas.go_on", meth 63 6, []⟩,
  ⟨pAd "CountingCanvas" "turn", "turn", "Canvas.turn", meth 63 9, []⟩,
  ⟨pAd "CountingCanvas" "shear", "shear", "Canvas.shear", meth 63 10, []⟩,
  ⟨pAd "CountingCanvas" "walk", "walk", "Canvas.walk", meth 63 11, []⟩,
  ⟨pAd "CountingCanvas" "check_turned", "check_turned", "Canvas.check_turned", meth 63 4, []⟩]
def ats3 : List At := [⟨pAd "CountingCanvas" "lost_number", "lost_number", "CountingCanvas.lost_number", meth 65 2, []⟩,
  ⟨pAd "KeepingCountingCanvas" "__init__", "__init__", "Canvas.__init__", meth 63 1, []⟩,
  ⟨pAd "KeepingCountingCanvas" "__len__", "__len__", "Canvas.__len__", meth 63 2, []⟩,
  ⟨pAd "KeepingCountingCanvas" "go_on", "go_on", "Canvas.go_on", meth 63 6, []⟩,
  ⟨pAd "KeepingCountingCanvas" "turn", "turn", "Canvas.turn", meth 63 9, []⟩,
  ⟨pAd "KeepingCountingCanvas" "shear", "shear", "Canvas.shear", meth 63 10, []⟩,
  ⟨pAd "KeepingCountingCanvas" "walk", "walk", "Canvas.walk", meth 63 11, []⟩,
  ⟨pAd "KeepingCountingCanvas" "check_turned", "check_turned", "KeepingCanvas.check_turned", meth 64 1, []⟩,
  ⟨pAd "KeepingCountingCanvas" "lost_number", "lost_number", "CountingCanvas.lost_number", meth 65 2, []⟩,
  ⟨gAd "Canvas" "pixels", "pixels", "Canvas.pixels", meth 63 15, []⟩,
  ⟨gAd "KeepingCanvas" "pixels", "pixels", "Canvas.pixels", meth 63 15, []⟩,
  ⟨gAd "CountingCanvas" "pixels", "pixels", "Canvas.pixels", meth 63 15, []⟩,
  ⟨gAd "KeepingCountingCanvas" "pixels", "pixels", "Canvas.pixels", meth 63 15, []⟩,
  ⟨gAd "Canvas" "deeds", "deeds", "Canvas.deeds", meth 63 16, []⟩,
  ⟨gAd "KeepingCanvas" "deeds", "deeds", "Canvas.deeds", meth 63 16, []⟩,
  ⟨gAd "CountingCanvas" "deeds", "deeds", "Canvas.deeds", meth 63 16, []⟩,
  ⟨gAd "KeepingCountingCanvas" "deeds", "deeds", "Canvas.deeds", meth 63 16, []⟩,
  ⟨gAd "CountingCanvas" "lost", "lost", "CountingCanvas.lost", meth 65 1, []⟩,
  ⟨gAd "KeepingCountingCanvas" "lost", "lost", "CountingCanvas.lost", meth 65 1, []⟩,
  ⟨pAd "Lost" "__init__", "__init__", "Lost.__init__", meth 8 0, ["__class__"]⟩]
def ats : List At := ats0 ++ ats1 ++ ats2 ++ ats3
def prs : List (Str × Str) := [("Canvas", "pixels"), ("KeepingCanvas", "pixels"), ("CountingCanvas", "pixels"), ("KeepingCountingCanvas", "pixels"), ("Canvas", "deeds"), ("KeepingCanvas", "deeds"), ("CountingCanvas", "deeds"), ("KeepingCountingCanvas", "deeds"), ("CountingCanvas", "lost"), ("KeepingCountingCanvas", "lost")]
def file : Str := PySem.Challenge.pw_turnedpixels_k85_whole_canvases_by_pictu.main.file
def names0 : List PySem.Str := ["_wall", "__name__", "TurnError", "InvalidTurn", "InvalidPixel", "InvalidOrder", "InvalidPixels", "InvalidWay", "Lost", "MOST_P", "MOST_PIXELS", "is_integer", "are_integers", "common", "is_pixel", "is_turn", "need_turn", "need_pixel", "need_pixels", "size_of", "plain_legs", "quartered", "nearest", "plain_place", "plain_image", "image_in", "back_of", "back", "stepped", "stepped_back"]
def names1 : List PySem.Str := ["after_steps", "before_steps", "is_keeping", "lowest", "keeps_all", "need_order", "need_sheared", "chain_in", "shear_chain", "sheared", "unsheared", "MOST_ITEMS", "way_fault", "need_way", "along", "walked", "way_bound", "need_turn_and_picture", "images_of", "is_picture", "turned_picture", "lost_number", "meetings_in", "there_and_back", "sheared_picture", "walked_picture", "Canvas", "KeepingCanvas", "CountingCanvas", "KeepingCountingCanvas"]
def names2 : List PySem.Str := ["_law_source", "_law_draw", "_law_common", "_law_spin", "_law_dot", "_law_dots", "_law_keeper", "_law_turned_right", "_law_walked_right"]
def names : List PySem.Str := names0 ++ names1 ++ names2
end TP


set_option Elab.async false
set_option linter.all false
set_option maxRecDepth 100000
set_option maxHeartbeats 0
namespace TP
open PySem PySem.Spec PyProof.Rows L2 NdefX
open C8 (Cal)
section
variable {w : World} {K : PySem.W.Frag} {mg : Str → Option Value} {base h : Heap}
abbrev Says (K : PySem.W.Frag) : Prop := (∀ f ∈ fa, f.ok K = true) ∧ (∀ d ∈ ats, d.ok K = true ∧ fnY K (d.adr K) = d.val) ∧ (∀ q ∈ prs, propB K q = true) ∧ lostB file K = true
theorem dm_of {K : PySem.W.Frag} {mg : Str → Option Value} {x : Str} {st : Stmt} (g : mg x = some (.ref (He.ga K x))) (e : ∃ fd, FunD K x x (defArgs st) (defBody st) (defScope st) [] [] (He.ga K x) fd) : Dm K mg x st := by
  obtain ⟨fd, F⟩ := e
  exact ⟨_, fd, F, g⟩
theorem mm_of {K : PySem.W.Frag} {m qual : Str} {st : Stmt} {x : Str} (c : Cls K (He.ga K x)) (hm : Meth K (He.ga K x) m (He.ma K (He.ga K x) m)) (e : ∃ fd, FunD K m qual (defArgs st) (defBody st) (defScope st) [] [] (pAd x m K) fd) : Mm K m qual st (He.ga K x) := by
  obtain ⟨fd, F⟩ := e
  exact ⟨_, fd, c, hm, F⟩
theorem pp_of {K : PySem.W.Frag} {m qual : Str} {st : Stmt} {x : Str} (c : Cls K (He.ga K x)) (hp : propB K (x, m) = true) (e : ∃ fd, FunD K m qual (defArgs st) (defBody st) (defScope st) [] [] (gAd x m K) fd) : Pp K m qual st (He.ga K x) := by
  obtain ⟨fd, F⟩ := e
  exact ⟨_, _, fd, c, prop_ok hp, F⟩
/-- the four classes -/
def kin (K : PySem.W.Frag) : Kin where
  fam := fun C => C = He.ga K "Canvas" ∨ C = He.ga K "KeepingCanvas" ∨ C = He.ga K "CountingCanvas" ∨ C = He.ga K "KeepingCountingCanvas"
  pln := fun C => C = He.ga K "Canvas" ∨ C = He.ga K "CountingCanvas"
  kpg := fun C => C = He.ga K "KeepingCanvas" ∨ C = He.ga K "KeepingCountingCanvas"
  cnt := fun C => C = He.ga K "CountingCanvas" ∨ C = He.ga K "KeepingCountingCanvas"
theorem fre_of (X : K.In h) (G : h.Ns mainGlobals mg) (S : Says K) : Fre mg := by
  refine ⟨?_, ?_, ?_, He.free_ok X G (S.1 (.free "isinstance") (List.mem_of_getElem? (i := 0) rfl)), He.free_ok X G (S.1 (.free "int") (List.mem_of_getElem? (i := 1) rfl)), He.free_ok X G (S.1 (.free "bool") (List.mem_of_getElem? (i := 2) rfl)), He.free_ok X G (S.1 (.free "tuple") (List.mem_of_getElem? (i := 3) rfl)), He.free_ok X G (S.1 (.free "list") (List.mem_of_getElem? (i := 4) rfl)), He.free_ok X G (S.1 (.free "set") (List.mem_of_getElem? (i := 5) rfl)), He.free_ok X G (S.1 (.free "str") (List.mem_of_getElem? (i := 6) rfl)), He.free_ok X G (S.1 (.free "len") (List.mem_of_getElem? (i := 7) rfl)), He.free_ok X G (S.1 (.free "all") (List.mem_of_getElem? (i := 8) rfl)), He.free_ok X G (S.1 (.free "abs") (List.mem_of_getElem? (i := 9) rfl)), He.free_ok X G (S.1 (.free "range") (List.mem_of_getElem? (i := 10) rfl)), He.free_ok X G (S.1 (.free "enumerate") (List.mem_of_getElem? (i := 11) rfl)), He.free_ok X G (S.1 (.free "zip") (List.mem_of_getElem? (i := 12) rfl)), He.free_ok X G (S.1 (.free "sorted") (List.mem_of_getElem? (i := 13) rfl)), He.free_ok X G (S.1 (.free "max") (List.mem_of_getElem? (i := 14) rfl)), He.free_ok X G (S.1 (.free "min") (List.mem_of_getElem? (i := 15) rfl))⟩
  · obtain ⟨t, e⟩ := He.int_ok X G (S.1 (.int "MOST_P" 1000000000000000) (List.mem_of_getElem? (i := 17) rfl))
    exact ⟨_, e, t, rfl⟩
  · obtain ⟨t, e⟩ := He.int_ok X G (S.1 (.int "MOST_PIXELS" 400) (List.mem_of_getElem? (i := 18) rfl))
    exact ⟨_, e, t, rfl⟩
  · obtain ⟨t, e⟩ := He.int_ok X G (S.1 (.int "MOST_ITEMS" 120) (List.mem_of_getElem? (i := 19) rfl))
    exact ⟨_, e, t, rfl⟩
theorem kin_ok (S : Says K) : (kin K).Ok K := by
  refine ⟨fun C hC => ?_, fun C hC => ?_, fun C hC => ?_, fun C hC => ?_⟩
  · rcases hC with z | z | z | z <;> rw [z]
    · exact ⟨He.cls_ok (S.1 (.cls "Canvas") (List.mem_of_getElem? (i := 79) rfl)), He.noat_ok (S.1 (.noat "Canvas" "first_dots") (List.mem_of_getElem? (i := 81) rfl)), He.noat_ok (S.1 (.noat "Canvas" "here_dots") (List.mem_of_getElem? (i := 82) rfl)), He.noat_ok (S.1 (.noat "Canvas" "told_deeds") (List.mem_of_getElem? (i := 83) rfl)), He.noat_ok (S.1 (.noat "Canvas" "past_dots") (List.mem_of_getElem? (i := 84) rfl))⟩
    · exact ⟨He.cls_ok (S.1 (.cls "KeepingCanvas") (List.mem_of_getElem? (i := 85) rfl)), He.noat_ok (S.1 (.noat "KeepingCanvas" "first_dots") (List.mem_of_getElem? (i := 87) rfl)), He.noat_ok (S.1 (.noat "KeepingCanvas" "here_dots") (List.mem_of_getElem? (i := 88) rfl)), He.noat_ok (S.1 (.noat "KeepingCanvas" "told_deeds") (List.mem_of_getElem? (i := 89) rfl)), He.noat_ok (S.1 (.noat "KeepingCanvas" "past_dots") (List.mem_of_getElem? (i := 90) rfl))⟩
    · exact ⟨He.cls_ok (S.1 (.cls "CountingCanvas") (List.mem_of_getElem? (i := 91) rfl)), He.noat_ok (S.1 (.noat "CountingCanvas" "first_dots") (List.mem_of_getElem? (i := 93) rfl)), He.noat_ok (S.1 (.noat "CountingCanvas" "here_dots") (List.mem_of_getElem? (i := 94) rfl)), He.noat_ok (S.1 (.noat "CountingCanvas" "told_deeds") (List.mem_of_getElem? (i := 95) rfl)), He.noat_ok (S.1 (.noat "CountingCanvas" "past_dots") (List.mem_of_getElem? (i := 96) rfl))⟩
    · exact ⟨He.cls_ok (S.1 (.cls "KeepingCountingCanvas") (List.mem_of_getElem? (i := 97) rfl)), He.noat_ok (S.1 (.noat "KeepingCountingCanvas" "first_dots") (List.mem_of_getElem? (i := 99) rfl)), He.noat_ok (S.1 (.noat "KeepingCountingCanvas" "here_dots") (List.mem_of_getElem? (i := 100) rfl)), He.noat_ok (S.1 (.noat "KeepingCountingCanvas" "told_deeds") (List.mem_of_getElem? (i := 101) rfl)), He.noat_ok (S.1 (.noat "KeepingCountingCanvas" "past_dots") (List.mem_of_getElem? (i := 102) rfl))⟩
  · exact hC.elim (fun z => .inl z) fun z => .inr (.inr (.inl z))
  · exact hC.elim (fun z => .inr (.inl z)) fun z => .inr (.inr (.inr z))
  · exact hC.elim (fun z => .inr (.inr (.inl z))) fun z => .inr (.inr (.inr z))
theorem d_is_integer (X : K.In h) (G : h.Ns mainGlobals mg) (S : Says K) : Dm K mg "is_integer" (top 12) := dm_of (He.glo_ok X G (S.1 (.glo "is_integer") (List.mem_of_getElem? (i := 20) rfl))) (At.funD (d := (⟨fun K => He.ga K "is_integer", "is_integer", "is_integer", top 12, []⟩ : At)) (S.2.1 _ (List.mem_of_getElem? (i := 0) rfl)).2 (S.2.1 _ (List.mem_of_getElem? (i := 0) rfl)).1 rfl)
theorem d_are_integers (X : K.In h) (G : h.Ns mainGlobals mg) (S : Says K) : Dm K mg "are_integers" (top 13) := dm_of (He.glo_ok X G (S.1 (.glo "are_integers") (List.mem_of_getElem? (i := 21) rfl))) (At.funD (d := (⟨fun K => He.ga K "are_integers", "are_integers", "are_integers", top 13, []⟩ : At)) (S.2.1 _ (List.mem_of_getElem? (i := 1) rfl)).2 (S.2.1 _ (List.mem_of_getElem? (i := 1) rfl)).1 rfl)
theorem d_is_pixel (X : K.In h) (G : h.Ns mainGlobals mg) (S : Says K) : Dm K mg "is_pixel" (top 15) := dm_of (He.glo_ok X G (S.1 (.glo "is_pixel") (List.mem_of_getElem? (i := 22) rfl))) (At.funD (d := (⟨fun K => He.ga K "is_pixel", "is_pixel", "is_pixel", top 15, []⟩ : At)) (S.2.1 _ (List.mem_of_getElem? (i := 2) rfl)).2 (S.2.1 _ (List.mem_of_getElem? (i := 2) rfl)).1 rfl)
theorem d_common (X : K.In h) (G : h.Ns mainGlobals mg) (S : Says K) : Dm K mg "common" (top 14) := dm_of (He.glo_ok X G (S.1 (.glo "common") (List.mem_of_getElem? (i := 23) rfl))) (At.funD (d := (⟨fun K => He.ga K "common", "common", "common", top 14, []⟩ : At)) (S.2.1 _ (List.mem_of_getElem? (i := 3) rfl)).2 (S.2.1 _ (List.mem_of_getElem? (i := 3) rfl)).1 rfl)
theorem d_is_turn (X : K.In h) (G : h.Ns mainGlobals mg) (S : Says K) : Dm K mg "is_turn" (top 16) := dm_of (He.glo_ok X G (S.1 (.glo "is_turn") (List.mem_of_getElem? (i := 24) rfl))) (At.funD (d := (⟨fun K => He.ga K "is_turn", "is_turn", "is_turn", top 16, []⟩ : At)) (S.2.1 _ (List.mem_of_getElem? (i := 4) rfl)).2 (S.2.1 _ (List.mem_of_getElem? (i := 4) rfl)).1 rfl)
theorem d_need_turn (X : K.In h) (G : h.Ns mainGlobals mg) (S : Says K) : Dm K mg "need_turn" (top 17) := dm_of (He.glo_ok X G (S.1 (.glo "need_turn") (List.mem_of_getElem? (i := 25) rfl))) (At.funD (d := (⟨fun K => He.ga K "need_turn", "need_turn", "need_turn", top 17, []⟩ : At)) (S.2.1 _ (List.mem_of_getElem? (i := 5) rfl)).2 (S.2.1 _ (List.mem_of_getElem? (i := 5) rfl)).1 rfl)
theorem d_need_pixel (X : K.In h) (G : h.Ns mainGlobals mg) (S : Says K) : Dm K mg "need_pixel" (top 18) := dm_of (He.glo_ok X G (S.1 (.glo "need_pixel") (List.mem_of_getElem? (i := 26) rfl))) (At.funD (d := (⟨fun K => He.ga K "need_pixel", "need_pixel", "need_pixel", top 18, []⟩ : At)) (S.2.1 _ (List.mem_of_getElem? (i := 6) rfl)).2 (S.2.1 _ (List.mem_of_getElem? (i := 6) rfl)).1 rfl)
theorem d_size_of (X : K.In h) (G : h.Ns mainGlobals mg) (S : Says K) : Dm K mg "size_of" (top 20) := dm_of (He.glo_ok X G (S.1 (.glo "size_of") (List.mem_of_getElem? (i := 27) rfl))) (At.funD (d := (⟨fun K => He.ga K "size_of", "size_of", "size_of", top 20, []⟩ : At)) (S.2.1 _ (List.mem_of_getElem? (i := 7) rfl)).2 (S.2.1 _ (List.mem_of_getElem? (i := 7) rfl)).1 rfl)
theorem d_plain_legs (X : K.In h) (G : h.Ns mainGlobals mg) (S : Says K) : Dm K mg "plain_legs" (top 21) := dm_of (He.glo_ok X G (S.1 (.glo "plain_legs") (List.mem_of_getElem? (i := 28) rfl))) (At.funD (d := (⟨fun K => He.ga K "plain_legs", "plain_legs", "plain_legs", top 21, []⟩ : At)) (S.2.1 _ (List.mem_of_getElem? (i := 8) rfl)).2 (S.2.1 _ (List.mem_of_getElem? (i := 8) rfl)).1 rfl)
theorem d_quartered (X : K.In h) (G : h.Ns mainGlobals mg) (S : Says K) : Dm K mg "quartered" (top 22) := dm_of (He.glo_ok X G (S.1 (.glo "quartered") (List.mem_of_getElem? (i := 29) rfl))) (At.funD (d := (⟨fun K => He.ga K "quartered", "quartered", "quartered", top 22, []⟩ : At)) (S.2.1 _ (List.mem_of_getElem? (i := 9) rfl)).2 (S.2.1 _ (List.mem_of_getElem? (i := 9) rfl)).1 rfl)
theorem d_nearest (X : K.In h) (G : h.Ns mainGlobals mg) (S : Says K) : Dm K mg "nearest" (top 23) := dm_of (He.glo_ok X G (S.1 (.glo "nearest") (List.mem_of_getElem? (i := 30) rfl))) (At.funD (d := (⟨fun K => He.ga K "nearest", "nearest", "nearest", top 23, []⟩ : At)) (S.2.1 _ (List.mem_of_getElem? (i := 10) rfl)).2 (S.2.1 _ (List.mem_of_getElem? (i := 10) rfl)).1 rfl)
theorem d_plain_place (X : K.In h) (G : h.Ns mainGlobals mg) (S : Says K) : Dm K mg "plain_place" (top 24) := dm_of (He.glo_ok X G (S.1 (.glo "plain_place") (List.mem_of_getElem? (i := 31) rfl))) (At.funD (d := (⟨fun K => He.ga K "plain_place", "plain_place", "plain_place", top 24, []⟩ : At)) (S.2.1 _ (List.mem_of_getElem? (i := 11) rfl)).2 (S.2.1 _ (List.mem_of_getElem? (i := 11) rfl)).1 rfl)
theorem d_plain_image (X : K.In h) (G : h.Ns mainGlobals mg) (S : Says K) : Dm K mg "plain_image" (top 25) := dm_of (He.glo_ok X G (S.1 (.glo "plain_image") (List.mem_of_getElem? (i := 32) rfl))) (At.funD (d := (⟨fun K => He.ga K "plain_image", "plain_image", "plain_image", top 25, []⟩ : At)) (S.2.1 _ (List.mem_of_getElem? (i := 12) rfl)).2 (S.2.1 _ (List.mem_of_getElem? (i := 12) rfl)).1 rfl)
theorem d_image_in (X : K.In h) (G : h.Ns mainGlobals mg) (S : Says K) : Dm K mg "image_in" (top 26) := dm_of (He.glo_ok X G (S.1 (.glo "image_in") (List.mem_of_getElem? (i := 33) rfl))) (At.funD (d := (⟨fun K => He.ga K "image_in", "image_in", "image_in", top 26, []⟩ : At)) (S.2.1 _ (List.mem_of_getElem? (i := 13) rfl)).2 (S.2.1 _ (List.mem_of_getElem? (i := 13) rfl)).1 rfl)
theorem d_back_of (X : K.In h) (G : h.Ns mainGlobals mg) (S : Says K) : Dm K mg "back_of" (top 27) := dm_of (He.glo_ok X G (S.1 (.glo "back_of") (List.mem_of_getElem? (i := 34) rfl))) (At.funD (d := (⟨fun K => He.ga K "back_of", "back_of", "back_of", top 27, []⟩ : At)) (S.2.1 _ (List.mem_of_getElem? (i := 14) rfl)).2 (S.2.1 _ (List.mem_of_getElem? (i := 14) rfl)).1 rfl)
theorem d_back (X : K.In h) (G : h.Ns mainGlobals mg) (S : Says K) : Dm K mg "back" (top 28) := dm_of (He.glo_ok X G (S.1 (.glo "back") (List.mem_of_getElem? (i := 35) rfl))) (At.funD (d := (⟨fun K => He.ga K "back", "back", "back", top 28, []⟩ : At)) (S.2.1 _ (List.mem_of_getElem? (i := 15) rfl)).2 (S.2.1 _ (List.mem_of_getElem? (i := 15) rfl)).1 rfl)
theorem d_need_pixels (X : K.In h) (G : h.Ns mainGlobals mg) (S : Says K) : Dm K mg "need_pixels" (top 19) := dm_of (He.glo_ok X G (S.1 (.glo "need_pixels") (List.mem_of_getElem? (i := 36) rfl))) (At.funD (d := (⟨fun K => He.ga K "need_pixels", "need_pixels", "need_pixels", top 19, []⟩ : At)) (S.2.1 _ (List.mem_of_getElem? (i := 16) rfl)).2 (S.2.1 _ (List.mem_of_getElem? (i := 16) rfl)).1 rfl)
theorem d_stepped (X : K.In h) (G : h.Ns mainGlobals mg) (S : Says K) : Dm K mg "stepped" (top 30) := dm_of (He.glo_ok X G (S.1 (.glo "stepped") (List.mem_of_getElem? (i := 37) rfl))) (At.funD (d := (⟨fun K => He.ga K "stepped", "stepped", "stepped", top 30, []⟩ : At)) (S.2.1 _ (List.mem_of_getElem? (i := 17) rfl)).2 (S.2.1 _ (List.mem_of_getElem? (i := 17) rfl)).1 rfl)
theorem d_stepped_back (X : K.In h) (G : h.Ns mainGlobals mg) (S : Says K) : Dm K mg "stepped_back" (top 31) := dm_of (He.glo_ok X G (S.1 (.glo "stepped_back") (List.mem_of_getElem? (i := 38) rfl))) (At.funD (d := (⟨fun K => He.ga K "stepped_back", "stepped_back", "stepped_back", top 31, []⟩ : At)) (S.2.1 _ (List.mem_of_getElem? (i := 18) rfl)).2 (S.2.1 _ (List.mem_of_getElem? (i := 18) rfl)).1 rfl)
theorem d_after_steps (X : K.In h) (G : h.Ns mainGlobals mg) (S : Says K) : Dm K mg "after_steps" (top 32) := dm_of (He.glo_ok X G (S.1 (.glo "after_steps") (List.mem_of_getElem? (i := 39) rfl))) (At.funD (d := (⟨fun K => He.ga K "after_steps", "after_steps", "after_steps", top 32, []⟩ : At)) (S.2.1 _ (List.mem_of_getElem? (i := 19) rfl)).2 (S.2.1 _ (List.mem_of_getElem? (i := 19) rfl)).1 rfl)
theorem d_before_steps (X : K.In h) (G : h.Ns mainGlobals mg) (S : Says K) : Dm K mg "before_steps" (top 33) := dm_of (He.glo_ok X G (S.1 (.glo "before_steps") (List.mem_of_getElem? (i := 40) rfl))) (At.funD (d := (⟨fun K => He.ga K "before_steps", "before_steps", "before_steps", top 33, []⟩ : At)) (S.2.1 _ (List.mem_of_getElem? (i := 20) rfl)).2 (S.2.1 _ (List.mem_of_getElem? (i := 20) rfl)).1 rfl)
theorem d_is_keeping (X : K.In h) (G : h.Ns mainGlobals mg) (S : Says K) : Dm K mg "is_keeping" (top 35) := dm_of (He.glo_ok X G (S.1 (.glo "is_keeping") (List.mem_of_getElem? (i := 41) rfl))) (At.funD (d := (⟨fun K => He.ga K "is_keeping", "is_keeping", "is_keeping", top 35, []⟩ : At)) (S.2.1 _ (List.mem_of_getElem? (i := 21) rfl)).2 (S.2.1 _ (List.mem_of_getElem? (i := 21) rfl)).1 rfl)
theorem d_lowest (X : K.In h) (G : h.Ns mainGlobals mg) (S : Says K) : Dm K mg "lowest" (top 36) := dm_of (He.glo_ok X G (S.1 (.glo "lowest") (List.mem_of_getElem? (i := 42) rfl))) (At.funD (d := (⟨fun K => He.ga K "lowest", "lowest", "lowest", top 36, []⟩ : At)) (S.2.1 _ (List.mem_of_getElem? (i := 22) rfl)).2 (S.2.1 _ (List.mem_of_getElem? (i := 22) rfl)).1 rfl)
theorem d_keeps_all (X : K.In h) (G : h.Ns mainGlobals mg) (S : Says K) : Dm K mg "keeps_all" (top 37) := dm_of (He.glo_ok X G (S.1 (.glo "keeps_all") (List.mem_of_getElem? (i := 43) rfl))) (At.funD (d := (⟨fun K => He.ga K "keeps_all", "keeps_all", "keeps_all", top 37, []⟩ : At)) (S.2.1 _ (List.mem_of_getElem? (i := 23) rfl)).2 (S.2.1 _ (List.mem_of_getElem? (i := 23) rfl)).1 rfl)
theorem d_need_order (X : K.In h) (G : h.Ns mainGlobals mg) (S : Says K) : Dm K mg "need_order" (top 39) := dm_of (He.glo_ok X G (S.1 (.glo "need_order") (List.mem_of_getElem? (i := 44) rfl))) (At.funD (d := (⟨fun K => He.ga K "need_order", "need_order", "need_order", top 39, []⟩ : At)) (S.2.1 _ (List.mem_of_getElem? (i := 24) rfl)).2 (S.2.1 _ (List.mem_of_getElem? (i := 24) rfl)).1 rfl)
theorem d_need_sheared (X : K.In h) (G : h.Ns mainGlobals mg) (S : Says K) : Dm K mg "need_sheared" (top 40) := dm_of (He.glo_ok X G (S.1 (.glo "need_sheared") (List.mem_of_getElem? (i := 45) rfl))) (At.funD (d := (⟨fun K => He.ga K "need_sheared", "need_sheared", "need_sheared", top 40, []⟩ : At)) (S.2.1 _ (List.mem_of_getElem? (i := 25) rfl)).2 (S.2.1 _ (List.mem_of_getElem? (i := 25) rfl)).1 rfl)
theorem d_chain_in (X : K.In h) (G : h.Ns mainGlobals mg) (S : Says K) : Dm K mg "chain_in" (top 41) := dm_of (He.glo_ok X G (S.1 (.glo "chain_in") (List.mem_of_getElem? (i := 46) rfl))) (At.funD (d := (⟨fun K => He.ga K "chain_in", "chain_in", "chain_in", top 41, []⟩ : At)) (S.2.1 _ (List.mem_of_getElem? (i := 26) rfl)).2 (S.2.1 _ (List.mem_of_getElem? (i := 26) rfl)).1 rfl)
theorem d_shear_chain (X : K.In h) (G : h.Ns mainGlobals mg) (S : Says K) : Dm K mg "shear_chain" (top 42) := dm_of (He.glo_ok X G (S.1 (.glo "shear_chain") (List.mem_of_getElem? (i := 47) rfl))) (At.funD (d := (⟨fun K => He.ga K "shear_chain", "shear_chain", "shear_chain", top 42, []⟩ : At)) (S.2.1 _ (List.mem_of_getElem? (i := 27) rfl)).2 (S.2.1 _ (List.mem_of_getElem? (i := 27) rfl)).1 rfl)
theorem d_sheared (X : K.In h) (G : h.Ns mainGlobals mg) (S : Says K) : Dm K mg "sheared" (top 43) := dm_of (He.glo_ok X G (S.1 (.glo "sheared") (List.mem_of_getElem? (i := 48) rfl))) (At.funD (d := (⟨fun K => He.ga K "sheared", "sheared", "sheared", top 43, []⟩ : At)) (S.2.1 _ (List.mem_of_getElem? (i := 28) rfl)).2 (S.2.1 _ (List.mem_of_getElem? (i := 28) rfl)).1 rfl)
theorem d_unsheared (X : K.In h) (G : h.Ns mainGlobals mg) (S : Says K) : Dm K mg "unsheared" (top 44) := dm_of (He.glo_ok X G (S.1 (.glo "unsheared") (List.mem_of_getElem? (i := 49) rfl))) (At.funD (d := (⟨fun K => He.ga K "unsheared", "unsheared", "unsheared", top 44, []⟩ : At)) (S.2.1 _ (List.mem_of_getElem? (i := 29) rfl)).2 (S.2.1 _ (List.mem_of_getElem? (i := 29) rfl)).1 rfl)
theorem d_way_fault (X : K.In h) (G : h.Ns mainGlobals mg) (S : Says K) : Dm K mg "way_fault" (top 47) := dm_of (He.glo_ok X G (S.1 (.glo "way_fault") (List.mem_of_getElem? (i := 50) rfl))) (At.funD (d := (⟨fun K => He.ga K "way_fault", "way_fault", "way_fault", top 47, []⟩ : At)) (S.2.1 _ (List.mem_of_getElem? (i := 30) rfl)).2 (S.2.1 _ (List.mem_of_getElem? (i := 30) rfl)).1 rfl)
theorem d_need_way (X : K.In h) (G : h.Ns mainGlobals mg) (S : Says K) : Dm K mg "need_way" (top 48) := dm_of (He.glo_ok X G (S.1 (.glo "need_way") (List.mem_of_getElem? (i := 51) rfl))) (At.funD (d := (⟨fun K => He.ga K "need_way", "need_way", "need_way", top 48, []⟩ : At)) (S.2.1 _ (List.mem_of_getElem? (i := 31) rfl)).2 (S.2.1 _ (List.mem_of_getElem? (i := 31) rfl)).1 rfl)
theorem d_along (X : K.In h) (G : h.Ns mainGlobals mg) (S : Says K) : Dm K mg "along" (top 49) := dm_of (He.glo_ok X G (S.1 (.glo "along") (List.mem_of_getElem? (i := 52) rfl))) (At.funD (d := (⟨fun K => He.ga K "along", "along", "along", top 49, []⟩ : At)) (S.2.1 _ (List.mem_of_getElem? (i := 32) rfl)).2 (S.2.1 _ (List.mem_of_getElem? (i := 32) rfl)).1 rfl)
theorem d_walked (X : K.In h) (G : h.Ns mainGlobals mg) (S : Says K) : Dm K mg "walked" (top 50) := dm_of (He.glo_ok X G (S.1 (.glo "walked") (List.mem_of_getElem? (i := 53) rfl))) (At.funD (d := (⟨fun K => He.ga K "walked", "walked", "walked", top 50, []⟩ : At)) (S.2.1 _ (List.mem_of_getElem? (i := 33) rfl)).2 (S.2.1 _ (List.mem_of_getElem? (i := 33) rfl)).1 rfl)
theorem d_way_bound (X : K.In h) (G : h.Ns mainGlobals mg) (S : Says K) : Dm K mg "way_bound" (top 51) := dm_of (He.glo_ok X G (S.1 (.glo "way_bound") (List.mem_of_getElem? (i := 54) rfl))) (At.funD (d := (⟨fun K => He.ga K "way_bound", "way_bound", "way_bound", top 51, []⟩ : At)) (S.2.1 _ (List.mem_of_getElem? (i := 34) rfl)).2 (S.2.1 _ (List.mem_of_getElem? (i := 34) rfl)).1 rfl)
theorem d_need_turn_and_picture (X : K.In h) (G : h.Ns mainGlobals mg) (S : Says K) : Dm K mg "need_turn_and_picture" (top 53) := dm_of (He.glo_ok X G (S.1 (.glo "need_turn_and_picture") (List.mem_of_getElem? (i := 55) rfl))) (At.funD (d := (⟨fun K => He.ga K "need_turn_and_picture", "need_turn_and_picture", "need_turn_and_picture", top 53, []⟩ : At)) (S.2.1 _ (List.mem_of_getElem? (i := 35) rfl)).2 (S.2.1 _ (List.mem_of_getElem? (i := 35) rfl)).1 rfl)
theorem d_images_of (X : K.In h) (G : h.Ns mainGlobals mg) (S : Says K) : Dm K mg "images_of" (top 54) := dm_of (He.glo_ok X G (S.1 (.glo "images_of") (List.mem_of_getElem? (i := 56) rfl))) (At.funD (d := (⟨fun K => He.ga K "images_of", "images_of", "images_of", top 54, []⟩ : At)) (S.2.1 _ (List.mem_of_getElem? (i := 36) rfl)).2 (S.2.1 _ (List.mem_of_getElem? (i := 36) rfl)).1 rfl)
theorem d_is_picture (X : K.In h) (G : h.Ns mainGlobals mg) (S : Says K) : Dm K mg "is_picture" (top 55) := dm_of (He.glo_ok X G (S.1 (.glo "is_picture") (List.mem_of_getElem? (i := 57) rfl))) (At.funD (d := (⟨fun K => He.ga K "is_picture", "is_picture", "is_picture", top 55, []⟩ : At)) (S.2.1 _ (List.mem_of_getElem? (i := 37) rfl)).2 (S.2.1 _ (List.mem_of_getElem? (i := 37) rfl)).1 rfl)
theorem d_turned_picture (X : K.In h) (G : h.Ns mainGlobals mg) (S : Says K) : Dm K mg "turned_picture" (top 56) := dm_of (He.glo_ok X G (S.1 (.glo "turned_picture") (List.mem_of_getElem? (i := 58) rfl))) (At.funD (d := (⟨fun K => He.ga K "turned_picture", "turned_picture", "turned_picture", top 56, []⟩ : At)) (S.2.1 _ (List.mem_of_getElem? (i := 38) rfl)).2 (S.2.1 _ (List.mem_of_getElem? (i := 38) rfl)).1 rfl)
theorem d_lost_number (X : K.In h) (G : h.Ns mainGlobals mg) (S : Says K) : Dm K mg "lost_number" (top 57) := dm_of (He.glo_ok X G (S.1 (.glo "lost_number") (List.mem_of_getElem? (i := 59) rfl))) (At.funD (d := (⟨fun K => He.ga K "lost_number", "lost_number", "lost_number", top 57, []⟩ : At)) (S.2.1 _ (List.mem_of_getElem? (i := 39) rfl)).2 (S.2.1 _ (List.mem_of_getElem? (i := 39) rfl)).1 rfl)
theorem d_meetings_in (X : K.In h) (G : h.Ns mainGlobals mg) (S : Says K) : Dm K mg "meetings_in" (top 58) := dm_of (He.glo_ok X G (S.1 (.glo "meetings_in") (List.mem_of_getElem? (i := 60) rfl))) (At.funD (d := (⟨fun K => He.ga K "meetings_in", "meetings_in", "meetings_in", top 58, []⟩ : At)) (S.2.1 _ (List.mem_of_getElem? (i := 40) rfl)).2 (S.2.1 _ (List.mem_of_getElem? (i := 40) rfl)).1 rfl)
theorem d_there_and_back (X : K.In h) (G : h.Ns mainGlobals mg) (S : Says K) : Dm K mg "there_and_back" (top 59) := dm_of (He.glo_ok X G (S.1 (.glo "there_and_back") (List.mem_of_getElem? (i := 61) rfl))) (At.funD (d := (⟨fun K => He.ga K "there_and_back", "there_and_back", "there_and_back", top 59, []⟩ : At)) (S.2.1 _ (List.mem_of_getElem? (i := 41) rfl)).2 (S.2.1 _ (List.mem_of_getElem? (i := 41) rfl)).1 rfl)
theorem d_sheared_picture (X : K.In h) (G : h.Ns mainGlobals mg) (S : Says K) : Dm K mg "sheared_picture" (top 60) := dm_of (He.glo_ok X G (S.1 (.glo "sheared_picture") (List.mem_of_getElem? (i := 62) rfl))) (At.funD (d := (⟨fun K => He.ga K "sheared_picture", "sheared_picture", "sheared_picture", top 60, []⟩ : At)) (S.2.1 _ (List.mem_of_getElem? (i := 42) rfl)).2 (S.2.1 _ (List.mem_of_getElem? (i := 42) rfl)).1 rfl)
theorem d_walked_picture (X : K.In h) (G : h.Ns mainGlobals mg) (S : Says K) : Dm K mg "walked_picture" (top 61) := dm_of (He.glo_ok X G (S.1 (.glo "walked_picture") (List.mem_of_getElem? (i := 63) rfl))) (At.funD (d := (⟨fun K => He.ga K "walked_picture", "walked_picture", "walked_picture", top 61, []⟩ : At)) (S.2.1 _ (List.mem_of_getElem? (i := 43) rfl)).2 (S.2.1 _ (List.mem_of_getElem? (i := 43) rfl)).1 rfl)
theorem d__law_source (X : K.In h) (G : h.Ns mainGlobals mg) (S : Says K) : Dm K mg "_law_source" (top 68) := dm_of (He.glo_ok X G (S.1 (.glo "_law_source") (List.mem_of_getElem? (i := 64) rfl))) (At.funD (d := (⟨fun K => He.ga K "_law_source", "_law_source", "_law_source", top 68, []⟩ : At)) (S.2.1 _ (List.mem_of_getElem? (i := 44) rfl)).2 (S.2.1 _ (List.mem_of_getElem? (i := 44) rfl)).1 rfl)
theorem d__law_draw (X : K.In h) (G : h.Ns mainGlobals mg) (S : Says K) : Dm K mg "_law_draw" (top 69) := dm_of (He.glo_ok X G (S.1 (.glo "_law_draw") (List.mem_of_getElem? (i := 65) rfl))) (At.funD (d := (⟨fun K => He.ga K "_law_draw", "_law_draw", "_law_draw", top 69, []⟩ : At)) (S.2.1 _ (List.mem_of_getElem? (i := 45) rfl)).2 (S.2.1 _ (List.mem_of_getElem? (i := 45) rfl)).1 rfl)
theorem d__law_common (X : K.In h) (G : h.Ns mainGlobals mg) (S : Says K) : Dm K mg "_law_common" (top 70) := dm_of (He.glo_ok X G (S.1 (.glo "_law_common") (List.mem_of_getElem? (i := 66) rfl))) (At.funD (d := (⟨fun K => He.ga K "_law_common", "_law_common", "_law_common", top 70, []⟩ : At)) (S.2.1 _ (List.mem_of_getElem? (i := 46) rfl)).2 (S.2.1 _ (List.mem_of_getElem? (i := 46) rfl)).1 rfl)
theorem d__law_spin (X : K.In h) (G : h.Ns mainGlobals mg) (S : Says K) : Dm K mg "_law_spin" (top 71) := dm_of (He.glo_ok X G (S.1 (.glo "_law_spin") (List.mem_of_getElem? (i := 67) rfl))) (At.funD (d := (⟨fun K => He.ga K "_law_spin", "_law_spin", "_law_spin", top 71, []⟩ : At)) (S.2.1 _ (List.mem_of_getElem? (i := 47) rfl)).2 (S.2.1 _ (List.mem_of_getElem? (i := 47) rfl)).1 rfl)
theorem d__law_dot (X : K.In h) (G : h.Ns mainGlobals mg) (S : Says K) : Dm K mg "_law_dot" (top 72) := dm_of (He.glo_ok X G (S.1 (.glo "_law_dot") (List.mem_of_getElem? (i := 68) rfl))) (At.funD (d := (⟨fun K => He.ga K "_law_dot", "_law_dot", "_law_dot", top 72, []⟩ : At)) (S.2.1 _ (List.mem_of_getElem? (i := 48) rfl)).2 (S.2.1 _ (List.mem_of_getElem? (i := 48) rfl)).1 rfl)
theorem d__law_dots (X : K.In h) (G : h.Ns mainGlobals mg) (S : Says K) : Dm K mg "_law_dots" (top 73) := dm_of (He.glo_ok X G (S.1 (.glo "_law_dots") (List.mem_of_getElem? (i := 69) rfl))) (At.funD (d := (⟨fun K => He.ga K "_law_dots", "_law_dots", "_law_dots", top 73, []⟩ : At)) (S.2.1 _ (List.mem_of_getElem? (i := 49) rfl)).2 (S.2.1 _ (List.mem_of_getElem? (i := 49) rfl)).1 rfl)
theorem d__law_keeper (X : K.In h) (G : h.Ns mainGlobals mg) (S : Says K) : Dm K mg "_law_keeper" (top 74) := dm_of (He.glo_ok X G (S.1 (.glo "_law_keeper") (List.mem_of_getElem? (i := 70) rfl))) (At.funD (d := (⟨fun K => He.ga K "_law_keeper", "_law_keeper", "_law_keeper", top 74, []⟩ : At)) (S.2.1 _ (List.mem_of_getElem? (i := 50) rfl)).2 (S.2.1 _ (List.mem_of_getElem? (i := 50) rfl)).1 rfl)
theorem d__law_turned_right (X : K.In h) (G : h.Ns mainGlobals mg) (S : Says K) : Dm K mg "_law_turned_right" (top 75) := dm_of (He.glo_ok X G (S.1 (.glo "_law_turned_right") (List.mem_of_getElem? (i := 71) rfl))) (At.funD (d := (⟨fun K => He.ga K "_law_turned_right", "_law_turned_right", "_law_turned_right", top 75, []⟩ : At)) (S.2.1 _ (List.mem_of_getElem? (i := 51) rfl)).2 (S.2.1 _ (List.mem_of_getElem? (i := 51) rfl)).1 rfl)
theorem d__law_walked_right (X : K.In h) (G : h.Ns mainGlobals mg) (S : Says K) : Dm K mg "_law_walked_right" (top 76) := dm_of (He.glo_ok X G (S.1 (.glo "_law_walked_right") (List.mem_of_getElem? (i := 72) rfl))) (At.funD (d := (⟨fun K => He.ga K "_law_walked_right", "_law_walked_right", "_law_walked_right", top 76, []⟩ : At)) (S.2.1 _ (List.mem_of_getElem? (i := 52) rfl)).2 (S.2.1 _ (List.mem_of_getElem? (i := 52) rfl)).1 rfl)
theorem mm_init (S : Says K) : ∀ C, (kin K).fam C → Mm K "__init__" "Canvas.__init__" (meth 63 1) C := by
  intro C hC
  rcases hC with z | z | z | z <;> rw [z]
  · exact mm_of (He.cls_ok (S.1 (.cls "Canvas") (List.mem_of_getElem? (i := 79) rfl))) (He.meth_ok (S.1 (.meth "Canvas" "__init__") (List.mem_of_getElem? (i := 103) rfl))) (At.funD (d := (⟨pAd "Canvas" "__init__", "__init__", "Canvas.__init__", meth 63 1, []⟩ : At)) (S.2.1 _ (List.mem_of_getElem? (i := 54) rfl)).2 (S.2.1 _ (List.mem_of_getElem? (i := 54) rfl)).1 rfl)
  · exact mm_of (He.cls_ok (S.1 (.cls "KeepingCanvas") (List.mem_of_getElem? (i := 85) rfl))) (He.meth_ok (S.1 (.meth "KeepingCanvas" "__init__") (List.mem_of_getElem? (i := 110) rfl))) (At.funD (d := (⟨pAd "KeepingCanvas" "__init__", "__init__", "Canvas.__init__", meth 63 1, []⟩ : At)) (S.2.1 _ (List.mem_of_getElem? (i := 61) rfl)).2 (S.2.1 _ (List.mem_of_getElem? (i := 61) rfl)).1 rfl)
  · exact mm_of (He.cls_ok (S.1 (.cls "CountingCanvas") (List.mem_of_getElem? (i := 91) rfl))) (He.meth_ok (S.1 (.meth "CountingCanvas" "__init__") (List.mem_of_getElem? (i := 117) rfl))) (At.funD (d := (⟨pAd "CountingCanvas" "__init__", "__init__", "Canvas.__init__", meth 63 1, []⟩ : At)) (S.2.1 _ (List.mem_of_getElem? (i := 68) rfl)).2 (S.2.1 _ (List.mem_of_getElem? (i := 68) rfl)).1 rfl)
  · exact mm_of (He.cls_ok (S.1 (.cls "KeepingCountingCanvas") (List.mem_of_getElem? (i := 97) rfl))) (He.meth_ok (S.1 (.meth "KeepingCountingCanvas" "__init__") (List.mem_of_getElem? (i := 125) rfl))) (At.funD (d := (⟨pAd "KeepingCountingCanvas" "__init__", "__init__", "Canvas.__init__", meth 63 1, []⟩ : At)) (S.2.1 _ (List.mem_of_getElem? (i := 76) rfl)).2 (S.2.1 _ (List.mem_of_getElem? (i := 76) rfl)).1 rfl)
theorem mm_len (S : Says K) : ∀ C, (kin K).fam C → Mm K "__len__" "Canvas.__len__" (meth 63 2) C := by
  intro C hC
  rcases hC with z | z | z | z <;> rw [z]
  · exact mm_of (He.cls_ok (S.1 (.cls "Canvas") (List.mem_of_getElem? (i := 79) rfl))) (He.meth_ok (S.1 (.meth "Canvas" "__len__") (List.mem_of_getElem? (i := 104) rfl))) (At.funD (d := (⟨pAd "Canvas" "__len__", "__len__", "Canvas.__len__", meth 63 2, []⟩ : At)) (S.2.1 _ (List.mem_of_getElem? (i := 55) rfl)).2 (S.2.1 _ (List.mem_of_getElem? (i := 55) rfl)).1 rfl)
  · exact mm_of (He.cls_ok (S.1 (.cls "KeepingCanvas") (List.mem_of_getElem? (i := 85) rfl))) (He.meth_ok (S.1 (.meth "KeepingCanvas" "__len__") (List.mem_of_getElem? (i := 111) rfl))) (At.funD (d := (⟨pAd "KeepingCanvas" "__len__", "__len__", "Canvas.__len__", meth 63 2, []⟩ : At)) (S.2.1 _ (List.mem_of_getElem? (i := 62) rfl)).2 (S.2.1 _ (List.mem_of_getElem? (i := 62) rfl)).1 rfl)
  · exact mm_of (He.cls_ok (S.1 (.cls "CountingCanvas") (List.mem_of_getElem? (i := 91) rfl))) (He.meth_ok (S.1 (.meth "CountingCanvas" "__len__") (List.mem_of_getElem? (i := 118) rfl))) (At.funD (d := (⟨pAd "CountingCanvas" "__len__", "__len__", "Canvas.__len__", meth 63 2, []⟩ : At)) (S.2.1 _ (List.mem_of_getElem? (i := 69) rfl)).2 (S.2.1 _ (List.mem_of_getElem? (i := 69) rfl)).1 rfl)
  · exact mm_of (He.cls_ok (S.1 (.cls "KeepingCountingCanvas") (List.mem_of_getElem? (i := 97) rfl))) (He.meth_ok (S.1 (.meth "KeepingCountingCanvas" "__len__") (List.mem_of_getElem? (i := 126) rfl))) (At.funD (d := (⟨pAd "KeepingCountingCanvas" "__len__", "__len__", "Canvas.__len__", meth 63 2, []⟩ : At)) (S.2.1 _ (List.mem_of_getElem? (i := 77) rfl)).2 (S.2.1 _ (List.mem_of_getElem? (i := 77) rfl)).1 rfl)
theorem mm_go_on (S : Says K) : ∀ C, (kin K).fam C → Mm K "go_on" "Canvas.go_on" (meth 63 6) C := by
  intro C hC
  rcases hC with z | z | z | z <;> rw [z]
  · exact mm_of (He.cls_ok (S.1 (.cls "Canvas") (List.mem_of_getElem? (i := 79) rfl))) (He.meth_ok (S.1 (.meth "Canvas" "go_on") (List.mem_of_getElem? (i := 105) rfl))) (At.funD (d := (⟨pAd "Canvas" "go_on", "go_on", "Canvas.go_on", meth 63 6, []⟩ : At)) (S.2.1 _ (List.mem_of_getElem? (i := 56) rfl)).2 (S.2.1 _ (List.mem_of_getElem? (i := 56) rfl)).1 rfl)
  · exact mm_of (He.cls_ok (S.1 (.cls "KeepingCanvas") (List.mem_of_getElem? (i := 85) rfl))) (He.meth_ok (S.1 (.meth "KeepingCanvas" "go_on") (List.mem_of_getElem? (i := 112) rfl))) (At.funD (d := (⟨pAd "KeepingCanvas" "go_on", "go_on", "Canvas.go_on", meth 63 6, []⟩ : At)) (S.2.1 _ (List.mem_of_getElem? (i := 63) rfl)).2 (S.2.1 _ (List.mem_of_getElem? (i := 63) rfl)).1 rfl)
  · exact mm_of (He.cls_ok (S.1 (.cls "CountingCanvas") (List.mem_of_getElem? (i := 91) rfl))) (He.meth_ok (S.1 (.meth "CountingCanvas" "go_on") (List.mem_of_getElem? (i := 119) rfl))) (At.funD (d := (⟨pAd "CountingCanvas" "go_on", "go_on", "Canvas.go_on", meth 63 6, []⟩ : At)) (S.2.1 _ (List.mem_of_getElem? (i := 70) rfl)).2 (S.2.1 _ (List.mem_of_getElem? (i := 70) rfl)).1 rfl)
  · exact mm_of (He.cls_ok (S.1 (.cls "KeepingCountingCanvas") (List.mem_of_getElem? (i := 97) rfl))) (He.meth_ok (S.1 (.meth "KeepingCountingCanvas" "go_on") (List.mem_of_getElem? (i := 127) rfl))) (At.funD (d := (⟨pAd "KeepingCountingCanvas" "go_on", "go_on", "Canvas.go_on", meth 63 6, []⟩ : At)) (S.2.1 _ (List.mem_of_getElem? (i := 78) rfl)).2 (S.2.1 _ (List.mem_of_getElem? (i := 78) rfl)).1 rfl)
theorem mm_turn (S : Says K) : ∀ C, (kin K).fam C → Mm K "turn" "Canvas.turn" (meth 63 9) C := by
  intro C hC
  rcases hC with z | z | z | z <;> rw [z]
  · exact mm_of (He.cls_ok (S.1 (.cls "Canvas") (List.mem_of_getElem? (i := 79) rfl))) (He.meth_ok (S.1 (.meth "Canvas" "turn") (List.mem_of_getElem? (i := 106) rfl))) (At.funD (d := (⟨pAd "Canvas" "turn", "turn", "Canvas.turn", meth 63 9, []⟩ : At)) (S.2.1 _ (List.mem_of_getElem? (i := 57) rfl)).2 (S.2.1 _ (List.mem_of_getElem? (i := 57) rfl)).1 rfl)
  · exact mm_of (He.cls_ok (S.1 (.cls "KeepingCanvas") (List.mem_of_getElem? (i := 85) rfl))) (He.meth_ok (S.1 (.meth "KeepingCanvas" "turn") (List.mem_of_getElem? (i := 113) rfl))) (At.funD (d := (⟨pAd "KeepingCanvas" "turn", "turn", "Canvas.turn", meth 63 9, []⟩ : At)) (S.2.1 _ (List.mem_of_getElem? (i := 64) rfl)).2 (S.2.1 _ (List.mem_of_getElem? (i := 64) rfl)).1 rfl)
  · exact mm_of (He.cls_ok (S.1 (.cls "CountingCanvas") (List.mem_of_getElem? (i := 91) rfl))) (He.meth_ok (S.1 (.meth "CountingCanvas" "turn") (List.mem_of_getElem? (i := 120) rfl))) (At.funD (d := (⟨pAd "CountingCanvas" "turn", "turn", "Canvas.turn", meth 63 9, []⟩ : At)) (S.2.1 _ (List.mem_of_getElem? (i := 71) rfl)).2 (S.2.1 _ (List.mem_of_getElem? (i := 71) rfl)).1 rfl)
  · exact mm_of (He.cls_ok (S.1 (.cls "KeepingCountingCanvas") (List.mem_of_getElem? (i := 97) rfl))) (He.meth_ok (S.1 (.meth "KeepingCountingCanvas" "turn") (List.mem_of_getElem? (i := 128) rfl))) (At.funD (d := (⟨pAd "KeepingCountingCanvas" "turn", "turn", "Canvas.turn", meth 63 9, []⟩ : At)) (S.2.1 _ (List.mem_of_getElem? (i := 79) rfl)).2 (S.2.1 _ (List.mem_of_getElem? (i := 79) rfl)).1 rfl)
theorem mm_shear (S : Says K) : ∀ C, (kin K).fam C → Mm K "shear" "Canvas.shear" (meth 63 10) C := by
  intro C hC
  rcases hC with z | z | z | z <;> rw [z]
  · exact mm_of (He.cls_ok (S.1 (.cls "Canvas") (List.mem_of_getElem? (i := 79) rfl))) (He.meth_ok (S.1 (.meth "Canvas" "shear") (List.mem_of_getElem? (i := 107) rfl))) (At.funD (d := (⟨pAd "Canvas" "shear", "shear", "Canvas.shear", meth 63 10, []⟩ : At)) (S.2.1 _ (List.mem_of_getElem? (i := 58) rfl)).2 (S.2.1 _ (List.mem_of_getElem? (i := 58) rfl)).1 rfl)
  · exact mm_of (He.cls_ok (S.1 (.cls "KeepingCanvas") (List.mem_of_getElem? (i := 85) rfl))) (He.meth_ok (S.1 (.meth "KeepingCanvas" "shear") (List.mem_of_getElem? (i := 114) rfl))) (At.funD (d := (⟨pAd "KeepingCanvas" "shear", "shear", "Canvas.shear", meth 63 10, []⟩ : At)) (S.2.1 _ (List.mem_of_getElem? (i := 65) rfl)).2 (S.2.1 _ (List.mem_of_getElem? (i := 65) rfl)).1 rfl)
  · exact mm_of (He.cls_ok (S.1 (.cls "CountingCanvas") (List.mem_of_getElem? (i := 91) rfl))) (He.meth_ok (S.1 (.meth "CountingCanvas" "shear") (List.mem_of_getElem? (i := 121) rfl))) (At.funD (d := (⟨pAd "CountingCanvas" "shear", "shear", "Canvas.shear", meth 63 10, []⟩ : At)) (S.2.1 _ (List.mem_of_getElem? (i := 72) rfl)).2 (S.2.1 _ (List.mem_of_getElem? (i := 72) rfl)).1 rfl)
  · exact mm_of (He.cls_ok (S.1 (.cls "KeepingCountingCanvas") (List.mem_of_getElem? (i := 97) rfl))) (He.meth_ok (S.1 (.meth "KeepingCountingCanvas" "shear") (List.mem_of_getElem? (i := 129) rfl))) (At.funD (d := (⟨pAd "KeepingCountingCanvas" "shear", "shear", "Canvas.shear", meth 63 10, []⟩ : At)) (S.2.1 _ (List.mem_of_getElem? (i := 80) rfl)).2 (S.2.1 _ (List.mem_of_getElem? (i := 80) rfl)).1 rfl)
theorem mm_walk (S : Says K) : ∀ C, (kin K).fam C → Mm K "walk" "Canvas.walk" (meth 63 11) C := by
  intro C hC
  rcases hC with z | z | z | z <;> rw [z]
  · exact mm_of (He.cls_ok (S.1 (.cls "Canvas") (List.mem_of_getElem? (i := 79) rfl))) (He.meth_ok (S.1 (.meth "Canvas" "walk") (List.mem_of_getElem? (i := 108) rfl))) (At.funD (d := (⟨pAd "Canvas" "walk", "walk", "Canvas.walk", meth 63 11, []⟩ : At)) (S.2.1 _ (List.mem_of_getElem? (i := 59) rfl)).2 (S.2.1 _ (List.mem_of_getElem? (i := 59) rfl)).1 rfl)
  · exact mm_of (He.cls_ok (S.1 (.cls "KeepingCanvas") (List.mem_of_getElem? (i := 85) rfl))) (He.meth_ok (S.1 (.meth "KeepingCanvas" "walk") (List.mem_of_getElem? (i := 115) rfl))) (At.funD (d := (⟨pAd "KeepingCanvas" "walk", "walk", "Canvas.walk", meth 63 11, []⟩ : At)) (S.2.1 _ (List.mem_of_getElem? (i := 66) rfl)).2 (S.2.1 _ (List.mem_of_getElem? (i := 66) rfl)).1 rfl)
  · exact mm_of (He.cls_ok (S.1 (.cls "CountingCanvas") (List.mem_of_getElem? (i := 91) rfl))) (He.meth_ok (S.1 (.meth "CountingCanvas" "walk") (List.mem_of_getElem? (i := 122) rfl))) (At.funD (d := (⟨pAd "CountingCanvas" "walk", "walk", "Canvas.walk", meth 63 11, []⟩ : At)) (S.2.1 _ (List.mem_of_getElem? (i := 73) rfl)).2 (S.2.1 _ (List.mem_of_getElem? (i := 73) rfl)).1 rfl)
  · exact mm_of (He.cls_ok (S.1 (.cls "KeepingCountingCanvas") (List.mem_of_getElem? (i := 97) rfl))) (He.meth_ok (S.1 (.meth "KeepingCountingCanvas" "walk") (List.mem_of_getElem? (i := 130) rfl))) (At.funD (d := (⟨pAd "KeepingCountingCanvas" "walk", "walk", "Canvas.walk", meth 63 11, []⟩ : At)) (S.2.1 _ (List.mem_of_getElem? (i := 81) rfl)).2 (S.2.1 _ (List.mem_of_getElem? (i := 81) rfl)).1 rfl)
theorem mm_checkp (S : Says K) : ∀ C, (kin K).pln C → Mm K "check_turned" "Canvas.check_turned" (meth 63 4) C := by
  intro C hC
  rcases hC with z | z <;> rw [z]
  · exact mm_of (He.cls_ok (S.1 (.cls "Canvas") (List.mem_of_getElem? (i := 79) rfl))) (He.meth_ok (S.1 (.meth "Canvas" "check_turned") (List.mem_of_getElem? (i := 109) rfl))) (At.funD (d := (⟨pAd "Canvas" "check_turned", "check_turned", "Canvas.check_turned", meth 63 4, []⟩ : At)) (S.2.1 _ (List.mem_of_getElem? (i := 60) rfl)).2 (S.2.1 _ (List.mem_of_getElem? (i := 60) rfl)).1 rfl)
  · exact mm_of (He.cls_ok (S.1 (.cls "CountingCanvas") (List.mem_of_getElem? (i := 91) rfl))) (He.meth_ok (S.1 (.meth "CountingCanvas" "check_turned") (List.mem_of_getElem? (i := 123) rfl))) (At.funD (d := (⟨pAd "CountingCanvas" "check_turned", "check_turned", "Canvas.check_turned", meth 63 4, []⟩ : At)) (S.2.1 _ (List.mem_of_getElem? (i := 74) rfl)).2 (S.2.1 _ (List.mem_of_getElem? (i := 74) rfl)).1 rfl)
theorem mm_checkk (S : Says K) : ∀ C, (kin K).kpg C → Mm K "check_turned" "KeepingCanvas.check_turned" (meth 64 1) C := by
  intro C hC
  rcases hC with z | z <;> rw [z]
  · exact mm_of (He.cls_ok (S.1 (.cls "KeepingCanvas") (List.mem_of_getElem? (i := 85) rfl))) (He.meth_ok (S.1 (.meth "KeepingCanvas" "check_turned") (List.mem_of_getElem? (i := 116) rfl))) (At.funD (d := (⟨pAd "KeepingCanvas" "check_turned", "check_turned", "KeepingCanvas.check_turned", meth 64 1, []⟩ : At)) (S.2.1 _ (List.mem_of_getElem? (i := 67) rfl)).2 (S.2.1 _ (List.mem_of_getElem? (i := 67) rfl)).1 rfl)
  · exact mm_of (He.cls_ok (S.1 (.cls "KeepingCountingCanvas") (List.mem_of_getElem? (i := 97) rfl))) (He.meth_ok (S.1 (.meth "KeepingCountingCanvas" "check_turned") (List.mem_of_getElem? (i := 131) rfl))) (At.funD (d := (⟨pAd "KeepingCountingCanvas" "check_turned", "check_turned", "KeepingCanvas.check_turned", meth 64 1, []⟩ : At)) (S.2.1 _ (List.mem_of_getElem? (i := 82) rfl)).2 (S.2.1 _ (List.mem_of_getElem? (i := 82) rfl)).1 rfl)
theorem mm_lostn (S : Says K) : ∀ C, (kin K).cnt C → Mm K "lost_number" "CountingCanvas.lost_number" (meth 65 2) C := by
  intro C hC
  rcases hC with z | z <;> rw [z]
  · exact mm_of (He.cls_ok (S.1 (.cls "CountingCanvas") (List.mem_of_getElem? (i := 91) rfl))) (He.meth_ok (S.1 (.meth "CountingCanvas" "lost_number") (List.mem_of_getElem? (i := 124) rfl))) (At.funD (d := (⟨pAd "CountingCanvas" "lost_number", "lost_number", "CountingCanvas.lost_number", meth 65 2, []⟩ : At)) (S.2.1 _ (List.mem_of_getElem? (i := 75) rfl)).2 (S.2.1 _ (List.mem_of_getElem? (i := 75) rfl)).1 rfl)
  · exact mm_of (He.cls_ok (S.1 (.cls "KeepingCountingCanvas") (List.mem_of_getElem? (i := 97) rfl))) (He.meth_ok (S.1 (.meth "KeepingCountingCanvas" "lost_number") (List.mem_of_getElem? (i := 132) rfl))) (At.funD (d := (⟨pAd "KeepingCountingCanvas" "lost_number", "lost_number", "CountingCanvas.lost_number", meth 65 2, []⟩ : At)) (S.2.1 _ (List.mem_of_getElem? (i := 83) rfl)).2 (S.2.1 _ (List.mem_of_getElem? (i := 83) rfl)).1 rfl)
theorem pp_pixels (S : Says K) : ∀ C, (kin K).fam C → Pp K "pixels" "Canvas.pixels" (meth 63 15) C := by
  intro C hC
  rcases hC with z | z | z | z <;> rw [z]
  · exact pp_of (He.cls_ok (S.1 (.cls "Canvas") (List.mem_of_getElem? (i := 79) rfl))) (S.2.2.1 _ (List.mem_of_getElem? (i := 0) rfl)) (At.funD (d := (⟨gAd "Canvas" "pixels", "pixels", "Canvas.pixels", meth 63 15, []⟩ : At)) (S.2.1 _ (List.mem_of_getElem? (i := 84) rfl)).2 (S.2.1 _ (List.mem_of_getElem? (i := 84) rfl)).1 rfl)
  · exact pp_of (He.cls_ok (S.1 (.cls "KeepingCanvas") (List.mem_of_getElem? (i := 85) rfl))) (S.2.2.1 _ (List.mem_of_getElem? (i := 1) rfl)) (At.funD (d := (⟨gAd "KeepingCanvas" "pixels", "pixels", "Canvas.pixels", meth 63 15, []⟩ : At)) (S.2.1 _ (List.mem_of_getElem? (i := 85) rfl)).2 (S.2.1 _ (List.mem_of_getElem? (i := 85) rfl)).1 rfl)
  · exact pp_of (He.cls_ok (S.1 (.cls "CountingCanvas") (List.mem_of_getElem? (i := 91) rfl))) (S.2.2.1 _ (List.mem_of_getElem? (i := 2) rfl)) (At.funD (d := (⟨gAd "CountingCanvas" "pixels", "pixels", "Canvas.pixels", meth 63 15, []⟩ : At)) (S.2.1 _ (List.mem_of_getElem? (i := 86) rfl)).2 (S.2.1 _ (List.mem_of_getElem? (i := 86) rfl)).1 rfl)
  · exact pp_of (He.cls_ok (S.1 (.cls "KeepingCountingCanvas") (List.mem_of_getElem? (i := 97) rfl))) (S.2.2.1 _ (List.mem_of_getElem? (i := 3) rfl)) (At.funD (d := (⟨gAd "KeepingCountingCanvas" "pixels", "pixels", "Canvas.pixels", meth 63 15, []⟩ : At)) (S.2.1 _ (List.mem_of_getElem? (i := 87) rfl)).2 (S.2.1 _ (List.mem_of_getElem? (i := 87) rfl)).1 rfl)
theorem pp_deeds (S : Says K) : ∀ C, (kin K).fam C → Pp K "deeds" "Canvas.deeds" (meth 63 16) C := by
  intro C hC
  rcases hC with z | z | z | z <;> rw [z]
  · exact pp_of (He.cls_ok (S.1 (.cls "Canvas") (List.mem_of_getElem? (i := 79) rfl))) (S.2.2.1 _ (List.mem_of_getElem? (i := 4) rfl)) (At.funD (d := (⟨gAd "Canvas" "deeds", "deeds", "Canvas.deeds", meth 63 16, []⟩ : At)) (S.2.1 _ (List.mem_of_getElem? (i := 88) rfl)).2 (S.2.1 _ (List.mem_of_getElem? (i := 88) rfl)).1 rfl)
  · exact pp_of (He.cls_ok (S.1 (.cls "KeepingCanvas") (List.mem_of_getElem? (i := 85) rfl))) (S.2.2.1 _ (List.mem_of_getElem? (i := 5) rfl)) (At.funD (d := (⟨gAd "KeepingCanvas" "deeds", "deeds", "Canvas.deeds", meth 63 16, []⟩ : At)) (S.2.1 _ (List.mem_of_getElem? (i := 89) rfl)).2 (S.2.1 _ (List.mem_of_getElem? (i := 89) rfl)).1 rfl)
  · exact pp_of (He.cls_ok (S.1 (.cls "CountingCanvas") (List.mem_of_getElem? (i := 91) rfl))) (S.2.2.1 _ (List.mem_of_getElem? (i := 6) rfl)) (At.funD (d := (⟨gAd "CountingCanvas" "deeds", "deeds", "Canvas.deeds", meth 63 16, []⟩ : At)) (S.2.1 _ (List.mem_of_getElem? (i := 90) rfl)).2 (S.2.1 _ (List.mem_of_getElem? (i := 90) rfl)).1 rfl)
  · exact pp_of (He.cls_ok (S.1 (.cls "KeepingCountingCanvas") (List.mem_of_getElem? (i := 97) rfl))) (S.2.2.1 _ (List.mem_of_getElem? (i := 7) rfl)) (At.funD (d := (⟨gAd "KeepingCountingCanvas" "deeds", "deeds", "Canvas.deeds", meth 63 16, []⟩ : At)) (S.2.1 _ (List.mem_of_getElem? (i := 91) rfl)).2 (S.2.1 _ (List.mem_of_getElem? (i := 91) rfl)).1 rfl)
theorem pp_lost (S : Says K) : ∀ C, (kin K).cnt C → Pp K "lost" "CountingCanvas.lost" (meth 65 1) C := by
  intro C hC
  rcases hC with z | z <;> rw [z]
  · exact pp_of (He.cls_ok (S.1 (.cls "CountingCanvas") (List.mem_of_getElem? (i := 91) rfl))) (S.2.2.1 _ (List.mem_of_getElem? (i := 8) rfl)) (At.funD (d := (⟨gAd "CountingCanvas" "lost", "lost", "CountingCanvas.lost", meth 65 1, []⟩ : At)) (S.2.1 _ (List.mem_of_getElem? (i := 92) rfl)).2 (S.2.1 _ (List.mem_of_getElem? (i := 92) rfl)).1 rfl)
  · exact pp_of (He.cls_ok (S.1 (.cls "KeepingCountingCanvas") (List.mem_of_getElem? (i := 97) rfl))) (S.2.2.1 _ (List.mem_of_getElem? (i := 9) rfl)) (At.funD (d := (⟨gAd "KeepingCountingCanvas" "lost", "lost", "CountingCanvas.lost", meth 65 1, []⟩ : At)) (S.2.1 _ (List.mem_of_getElem? (i := 93) rfl)).2 (S.2.1 _ (List.mem_of_getElem? (i := 93) rfl)).1 rfl)
end
end TP


set_option Elab.async false
set_option linter.all false
set_option maxRecDepth 100000
set_option maxHeartbeats 0
namespace TP
open PySem PySem.Spec PyProof.Rows L2 NdefX
open C8 (Cal)

theorem lost_end {w : World} {K : PySem.W.Frag} {mg : Str → Option Value} {base h : Heap} (X : K.In h) (G : h.Ns mainGlobals mg) (S : Says K) {cda cc : Addr} {oc c1 c2 kV doc pm ct : Value} {od d1 d2 an : Option Addr} {osl s1 s2 : Array (Option Value)} {vs : Array Value} {fl : Str} {tk : Tok} (T : OexC K (He.ga K "Lost"))
    (l2 : xfB K (He.ga K "Lost") = true) (l3 : He.eqO (PySem.W.findIn K (.ref (He.ga K "Lost")) "number") (some none) = true) (l4 : He.eqO (PySem.W.findIn K (.ref (He.ga K "Lost")) "__init__") (some (some (.ref (pAd "Lost" "__init__" K)))) = true) (l5 : decide (PySem.W.typeIn K (.ref (pAd "Lost" "__init__" K)) = some (.type "function")) = true) (l6 : decide (PySem.W.exmOne K (.ref (He.ga K "Lost")) (.ref (He.ga K "Lost")) = some true) = true) (l7 : decide (PySem.W.mroIn K (He.ga K "Lost") (.ref (He.ga K "Lost")) = some true) = true) (l8 : He.eqO (PySem.W.nsIn K cStatics "thirdparty.any") (some none) = true) (l9 : He.eqO (PySem.W.ks_superIn K (He.ga K "Lost") (He.ga K "Lost") "__init__") (some (some (.builtin "ValueError.__init__"))) = true) (l10 : decide (PySem.W.subIn K (.ref (He.ga K "Lost")) (.type "ValueError") = some true) = true)
    (lk : K.lookup (pAd "Lost" "__init__" K) = some ⟨oc, od, .func (PySem.W.fnX "__init__" "Lost.__init__" (defArgs (meth 8 0)) (defBody (meth 8 0)) (defScope (meth 8 0)) [("__class__", cc)] .none kV doc pm an (.ref cda) ct), osl⟩) (hcd : PySem.W.codeIn K (.ref cda) "Lost.__init__" = true) (hk1 : K.lookup cda = some ⟨c1, d1, .fields vs, s1⟩) (hv : vs[2]? = some (.str fl tk)) (q1 : (file == fl) = true)
    (hk2 : K.lookup cc = some ⟨c2, d2, .cell (some (.ref (He.ga K "Lost"))), s2⟩) : LostOk PySem.Challenge.pw_turnedpixels_k85_whole_canvases_by_pictu w K mg base (He.ga K "Lost") := by
  have F : FnOk PySem.Challenge.pw_turnedpixels_k85_whole_canvases_by_pictu w K mg base C8.CX0 1 (pAd "Lost" "__init__" K) _ ["self", "number"] (spErr (He.ga K "Lost") "number") :=
    fn_err (j := Sum.inl 0) (x := "number") (f := "number") (msg := "pixels would be lost") (ar := ⟨"self", none, _⟩) lk hcd hk1 hv q1 hk2 rfl ⟨_, _, rfl⟩ (nscope_by (by decide +kernel)) (by decide +kernel) rfl rfl (by decide) (by decide) (by decide) T (of_decide_eq_true l7) (He.eqO_ok l8) (He.eqO_ok l9) (of_decide_eq_true l10) (He.free_ok X G (S.1 (.free "super") (List.mem_of_getElem? (i := 16) rfl))) (fun _ _ => rfl) (by decide +kernel) (He.eqO_ok l3)
  exact ⟨T, xfB_ok l2, He.eqO_ok l3, ⟨_, _, He.eqO_ok l4, of_decide_eq_true l5, F, .all fun us hl => match us, hl with | [_, _], _ => rfl⟩, He.glo_ok X G (S.1 (.glo "Lost") (List.mem_of_getElem? (i := 78) rfl)), of_decide_eq_true l6⟩


theorem lost_ok {w : World} {K : PySem.W.Frag} {mg : Str → Option Value} {base h : Heap} (X : K.In h) (G : h.Ns mainGlobals mg) (S : Says K) : LostOk PySem.Challenge.pw_turnedpixels_k85_whole_canvases_by_pictu w K mg base (He.ga K "Lost") := by
  have L := S.2.2.2
  unfold lostB at L
  obtain ⟨l1, L⟩ := He.ba L
  obtain ⟨l2, L⟩ := He.ba L
  obtain ⟨l3, L⟩ := He.ba L
  obtain ⟨l4, L⟩ := He.ba L
  obtain ⟨l5, L⟩ := He.ba L
  obtain ⟨l6, L⟩ := He.ba L
  obtain ⟨l7, L⟩ := He.ba L
  obtain ⟨l8, L⟩ := He.ba L
  obtain ⟨l9, L⟩ := He.ba L
  obtain ⟨l10, L⟩ := He.ba L
  have T := oex_ok l1
  have d0 := S.2.1 _ (List.mem_of_getElem? (l := ats) (i := 94) rfl)
  obtain ⟨oc, od, osl, dV, kV, doc, pm, an, cdv, ct, cc, lk, hcd, hdV⟩ := At.funX (d := (⟨pAd "Lost" "__init__", "__init__", "Lost.__init__", meth 8 0, ["__class__"]⟩ : At)) (x := "__class__") d0.2 d0.1 rfl
  subst hdV
  have lk2 : K.lookup (pAd "Lost" "__init__" K) = _ := lk
  rw [lk2] at L
  dsimp only [PySem.W.fnX] at L
  cases cdv with
  | ref cda =>
    obtain ⟨q1, q2⟩ := He.ba L
    cases hk1 : K.lookup cda with
    | none =>
      rw [hk1] at q1
      cases q1
    | some o1 =>
      obtain ⟨c1, d1, dt1, s1⟩ := o1
      rw [hk1] at q1
      cases dt1 with
      | fields vs =>
        cases hv : vs[2]? with
        | none =>
          dsimp only at q1
          rw [hv] at q1
          cases q1
        | some v2 =>
          dsimp only at q1
          rw [hv] at q1
          cases v2 with
          | str fl tk =>
            cases hk2 : K.lookup cc with
            | none =>
              rw [hk2] at q2
              cases q2
            | some o2 =>
              obtain ⟨c2, d2, dt2, s2⟩ := o2
              rw [hk2] at q2
              cases dt2 with
              | cell cv =>
                cases cv with
                | none => cases q2
                | some cv =>
                  cases cv with
                  | ref D2 =>
                    have eD : D2 = He.ga K "Lost" := of_decide_eq_true q2
                    exact lost_end (w := w) (base := base) X G S T l2 l3 l4 l5 l6 l7 l8 l9 l10 lk hcd hk1 hv q1 (by rw [hk2, eD])
                  | _ => cases q2
              | _ => cases q2
          | _ => cases q1
      | _ => cases q1
  | _ => cases L

theorem law_ok {w : World} {K : PySem.W.Frag} {mg : Str → Option Value} {base h : Heap} (X : K.In h) (G : h.Ns mainGlobals mg) (S : Says K) {f : Addr} {fd : FuncData} (F0 : FnT K "law" "law" (top 77) f fd) : FnOk PySem.Challenge.pw_turnedpixels_k85_whole_canvases_by_pictu w K mg base C8.CX0 13 f fd ["_law_script"] (s_law K) := by
  have T := fre_of X G S
  have hF := kin_ok S
  have hL := lost_ok (w := w) (base := base) X G S
  have h_is_integer : Cal PySem.Challenge.pw_turnedpixels_k85_whole_canvases_by_pictu w K mg base 1 "is_integer" s_is_integer [] := c_is_integer (d_is_integer X G S) T 
  have h_are_integers : Cal PySem.Challenge.pw_turnedpixels_k85_whole_canvases_by_pictu w K mg base 2 "are_integers" s_are_integers [] := c_are_integers (d_are_integers X G S) T h_is_integer
  have h_is_pixel : Cal PySem.Challenge.pw_turnedpixels_k85_whole_canvases_by_pictu w K mg base 3 "is_pixel" s_is_pixel [] := c_is_pixel (d_is_pixel X G S) T h_are_integers
  have h_common : Cal PySem.Challenge.pw_turnedpixels_k85_whole_canvases_by_pictu w K mg base 1 "common" s_common [] := c_common (d_common X G S) T 
  have h_is_turn : Cal PySem.Challenge.pw_turnedpixels_k85_whole_canvases_by_pictu w K mg base 3 "is_turn" s_is_turn [] := c_is_turn (d_is_turn X G S) T h_common h_are_integers
  have h_need_turn : Cal PySem.Challenge.pw_turnedpixels_k85_whole_canvases_by_pictu w K mg base 4 "need_turn" s_need_turn [] := c_need_turn (d_need_turn X G S) T h_is_turn
  have h_need_pixel : Cal PySem.Challenge.pw_turnedpixels_k85_whole_canvases_by_pictu w K mg base 4 "need_pixel" s_need_pixel [] := c_need_pixel (d_need_pixel X G S) T h_is_pixel
  have h_size_of : Cal PySem.Challenge.pw_turnedpixels_k85_whole_canvases_by_pictu w K mg base 1 "size_of" s_size_of [] := c_size_of (d_size_of X G S) T 
  have h_plain_legs : Cal PySem.Challenge.pw_turnedpixels_k85_whole_canvases_by_pictu w K mg base 1 "plain_legs" s_plain_legs [] := c_plain_legs (d_plain_legs X G S) T 
  have h_quartered : Cal PySem.Challenge.pw_turnedpixels_k85_whole_canvases_by_pictu w K mg base 1 "quartered" s_quartered [] := c_quartered (d_quartered X G S) T 
  have h_nearest : Cal PySem.Challenge.pw_turnedpixels_k85_whole_canvases_by_pictu w K mg base 1 "nearest" s_nearest [] := c_nearest (d_nearest X G S) T 
  have h_plain_place : Cal PySem.Challenge.pw_turnedpixels_k85_whole_canvases_by_pictu w K mg base 2 "plain_place" s_plain_place [] := c_plain_place (d_plain_place X G S) T h_plain_legs
  have h_plain_image : Cal PySem.Challenge.pw_turnedpixels_k85_whole_canvases_by_pictu w K mg base 3 "plain_image" s_plain_image [] := c_plain_image (d_plain_image X G S) T h_plain_place h_nearest h_size_of
  have h_image_in : Cal PySem.Challenge.pw_turnedpixels_k85_whole_canvases_by_pictu w K mg base 4 "image_in" s_image_in [] := c_image_in (d_image_in X G S) T h_quartered h_plain_image
  have h_back_of : Cal PySem.Challenge.pw_turnedpixels_k85_whole_canvases_by_pictu w K mg base 1 "back_of" s_back_of [] := c_back_of (d_back_of X G S) T 
  have h_back : Cal PySem.Challenge.pw_turnedpixels_k85_whole_canvases_by_pictu w K mg base 5 "back" s_back [] := c_back (d_back X G S) T h_back_of h_need_turn
  have h_need_pixels : Cal PySem.Challenge.pw_turnedpixels_k85_whole_canvases_by_pictu w K mg base 4 "need_pixels" s_need_pixels [] := c_need_pixels (d_need_pixels X G S) T h_is_pixel
  have h_stepped : Cal PySem.Challenge.pw_turnedpixels_k85_whole_canvases_by_pictu w K mg base 2 "stepped" s_stepped [] := c_stepped (d_stepped X G S) T h_nearest
  have h_stepped_back : Cal PySem.Challenge.pw_turnedpixels_k85_whole_canvases_by_pictu w K mg base 2 "stepped_back" s_stepped_back [] := c_stepped_back (d_stepped_back X G S) T h_nearest
  have h_after_steps : Cal PySem.Challenge.pw_turnedpixels_k85_whole_canvases_by_pictu w K mg base 3 "after_steps" s_after_steps [] := c_after_steps (d_after_steps X G S) T h_stepped
  have h_before_steps : Cal PySem.Challenge.pw_turnedpixels_k85_whole_canvases_by_pictu w K mg base 3 "before_steps" s_before_steps [] := c_before_steps (d_before_steps X G S) T h_stepped_back
  have h_is_keeping : Cal PySem.Challenge.pw_turnedpixels_k85_whole_canvases_by_pictu w K mg base 1 "is_keeping" s_is_keeping [] := c_is_keeping (d_is_keeping X G S) T 
  have h_lowest : Cal PySem.Challenge.pw_turnedpixels_k85_whole_canvases_by_pictu w K mg base 2 "lowest" s_lowest [] := c_lowest (d_lowest X G S) T h_common
  have h_keeps_all : Cal PySem.Challenge.pw_turnedpixels_k85_whole_canvases_by_pictu w K mg base 5 "keeps_all" s_keeps_all [] := c_keeps_all (d_keeps_all X G S) T h_is_keeping h_need_turn
  have h_need_order : Cal PySem.Challenge.pw_turnedpixels_k85_whole_canvases_by_pictu w K mg base 1 "need_order" s_need_order [] := c_need_order (d_need_order X G S) T 
  have h_need_sheared : Cal PySem.Challenge.pw_turnedpixels_k85_whole_canvases_by_pictu w K mg base 5 "need_sheared" s_need_sheared [] := c_need_sheared (d_need_sheared X G S) T h_need_pixel h_need_order h_need_turn
  have h_chain_in : Cal PySem.Challenge.pw_turnedpixels_k85_whole_canvases_by_pictu w K mg base 2 "chain_in" s_chain_in [] := c_chain_in (d_chain_in X G S) T h_plain_legs
  have h_shear_chain : Cal PySem.Challenge.pw_turnedpixels_k85_whole_canvases_by_pictu w K mg base 5 "shear_chain" s_shear_chain [] := c_shear_chain (d_shear_chain X G S) T h_chain_in h_need_order h_need_turn
  have h_sheared : Cal PySem.Challenge.pw_turnedpixels_k85_whole_canvases_by_pictu w K mg base 6 "sheared" s_sheared [] := c_sheared (d_sheared X G S) T h_quartered h_after_steps h_chain_in h_need_sheared
  have h_unsheared : Cal PySem.Challenge.pw_turnedpixels_k85_whole_canvases_by_pictu w K mg base 6 "unsheared" s_unsheared [] := c_unsheared (d_unsheared X G S) T h_before_steps h_quartered h_chain_in h_need_sheared
  have h_way_fault : Cal PySem.Challenge.pw_turnedpixels_k85_whole_canvases_by_pictu w K mg base 4 "way_fault" s_way_fault [] := c_way_fault (d_way_fault X G S) T h_is_keeping h_is_turn
  have h_need_way : Cal PySem.Challenge.pw_turnedpixels_k85_whole_canvases_by_pictu w K mg base 5 "need_way" s_need_way [] := c_need_way (d_need_way X G S) T h_way_fault
  have h_along : Cal PySem.Challenge.pw_turnedpixels_k85_whole_canvases_by_pictu w K mg base 5 "along" s_along [] := c_along (d_along X G S) T h_image_in
  have h_walked : Cal PySem.Challenge.pw_turnedpixels_k85_whole_canvases_by_pictu w K mg base 6 "walked" s_walked [] := c_walked (d_walked X G S) T h_along h_need_pixel h_need_way
  have h_way_bound : Cal PySem.Challenge.pw_turnedpixels_k85_whole_canvases_by_pictu w K mg base 6 "way_bound" s_way_bound [] := c_way_bound (d_way_bound X G S) T h_lowest h_need_way
  have h_need_turn_and_picture : Cal PySem.Challenge.pw_turnedpixels_k85_whole_canvases_by_pictu w K mg base 5 "need_turn_and_picture" s_need_turn_and_picture [] := c_need_turn_and_picture (d_need_turn_and_picture X G S) T h_need_pixels h_need_turn
  have h_images_of : Cal PySem.Challenge.pw_turnedpixels_k85_whole_canvases_by_pictu w K mg base 5 "images_of" s_images_of [] := c_images_of (d_images_of X G S) T h_image_in
  have h_is_picture : Cal PySem.Challenge.pw_turnedpixels_k85_whole_canvases_by_pictu w K mg base 4 "is_picture" s_is_picture [] := c_is_picture (d_is_picture X G S) T h_is_pixel
  have h_turned_picture : Cal PySem.Challenge.pw_turnedpixels_k85_whole_canvases_by_pictu w K mg base 6 "turned_picture" s_turned_picture [] := c_turned_picture (d_turned_picture X G S) T h_images_of h_need_turn_and_picture
  have h_lost_number : Cal PySem.Challenge.pw_turnedpixels_k85_whole_canvases_by_pictu w K mg base 6 "lost_number" s_lost_number [] := c_lost_number (d_lost_number X G S) T h_images_of h_need_turn_and_picture
  have h_meetings_in : Cal PySem.Challenge.pw_turnedpixels_k85_whole_canvases_by_pictu w K mg base 6 "meetings_in" s_meetings_in [] := c_meetings_in (d_meetings_in X G S) T h_image_in h_need_turn_and_picture
  have h_there_and_back : Cal PySem.Challenge.pw_turnedpixels_k85_whole_canvases_by_pictu w K mg base 6 "there_and_back" s_there_and_back [] := c_there_and_back (d_there_and_back X G S) T h_images_of h_back_of h_need_turn_and_picture
  have h_sheared_picture : Cal PySem.Challenge.pw_turnedpixels_k85_whole_canvases_by_pictu w K mg base 7 "sheared_picture" s_sheared_picture [] := c_sheared_picture (d_sheared_picture X G S) T h_sheared h_need_pixels h_shear_chain
  have h_walked_picture : Cal PySem.Challenge.pw_turnedpixels_k85_whole_canvases_by_pictu w K mg base 7 "walked_picture" s_walked_picture [] := c_walked_picture (d_walked_picture X G S) T h_walked h_need_pixels h_way_bound
  have h__law_source : Cal PySem.Challenge.pw_turnedpixels_k85_whole_canvases_by_pictu w K mg base 1 "_law_source" s__law_source [] := c__law_source (d__law_source X G S) T 
  have h__law_draw : Cal PySem.Challenge.pw_turnedpixels_k85_whole_canvases_by_pictu w K mg base 1 "_law_draw" s__law_draw [] := c__law_draw (d__law_draw X G S) T 
  have h__law_common : Cal PySem.Challenge.pw_turnedpixels_k85_whole_canvases_by_pictu w K mg base 1 "_law_common" s__law_common [] := c__law_common (d__law_common X G S) T 
  have h__law_spin : Cal PySem.Challenge.pw_turnedpixels_k85_whole_canvases_by_pictu w K mg base 2 "_law_spin" s__law_spin [] := c__law_spin (d__law_spin X G S) T h__law_draw h__law_common
  have h__law_dot : Cal PySem.Challenge.pw_turnedpixels_k85_whole_canvases_by_pictu w K mg base 2 "_law_dot" s__law_dot [] := c__law_dot (d__law_dot X G S) T h__law_draw
  have h__law_dots : Cal PySem.Challenge.pw_turnedpixels_k85_whole_canvases_by_pictu w K mg base 3 "_law_dots" s__law_dots [] := c__law_dots (d__law_dots X G S) T h__law_draw h__law_dot
  have h__law_keeper : Cal PySem.Challenge.pw_turnedpixels_k85_whole_canvases_by_pictu w K mg base 2 "_law_keeper" s__law_keeper [] := c__law_keeper (d__law_keeper X G S) T h__law_draw
  have m_init' : ∀ C, (kin K).fam C → MU PySem.Challenge.pw_turnedpixels_k85_whole_canvases_by_pictu w K mg base C8.CX0 5 "__init__" C (s_init (kin K)) := m_init hF (mm_init S) T h_need_pixels
  have m_len' : ∀ C, (kin K).fam C → MU PySem.Challenge.pw_turnedpixels_k85_whole_canvases_by_pictu w K mg base C8.CX0 1 "__len__" C (s_len (kin K)) := m_len hF (mm_len S) T
  have m_checkp' : ∀ C, (kin K).pln C → MU PySem.Challenge.pw_turnedpixels_k85_whole_canvases_by_pictu w K mg base C8.CX0 1 "check_turned" C (s_check_plain) := m_check_plain hF (mm_checkp S) T
  have m_go' : ∀ C, (kin K).fam C → MU PySem.Challenge.pw_turnedpixels_k85_whole_canvases_by_pictu w K mg base C8.CX0 1 "go_on" C (s_go_on (kin K)) := m_go_on hF (mm_go_on S) T
  have m_turn' : ∀ C, (kin K).pln C → MU PySem.Challenge.pw_turnedpixels_k85_whole_canvases_by_pictu w K mg base C8.CX0 7 "turn" C (s_turn (kin K)) := m_turn hF (fun C hC => mm_turn S C (hF.pln C hC)) T h_turned_picture m_checkp' m_go'
  have m_shear' : ∀ C, (kin K).fam C → MU PySem.Challenge.pw_turnedpixels_k85_whole_canvases_by_pictu w K mg base C8.CX0 8 "shear" C (s_shear (kin K)) := m_shear hF (mm_shear S) T h_sheared_picture m_go'
  have m_walk' : ∀ C, (kin K).fam C → MU PySem.Challenge.pw_turnedpixels_k85_whole_canvases_by_pictu w K mg base C8.CX0 8 "walk" C (s_walk (kin K)) := m_walk hF (mm_walk S) T h_walked_picture m_go'
  have m_pixels' : ∀ C, (kin K).fam C → PU PySem.Challenge.pw_turnedpixels_k85_whole_canvases_by_pictu w K mg base C8.CX0 1 "pixels" C (s_pixels (kin K)) := m_pixels hF (pp_pixels S) T
  have m_pixelsQ' : ∀ C, (kin K).fam C → PQ PySem.Challenge.pw_turnedpixels_k85_whole_canvases_by_pictu w K mg base C8.CX0 1 "pixels" C (s_pixels (kin K)) := m_pixelsQ hF (pp_pixels S) T
  have m_checkk' : ∀ C, (kin K).kpg C → MU PySem.Challenge.pw_turnedpixels_k85_whole_canvases_by_pictu w K mg base (L2.CX PySem.Challenge.pw_turnedpixels_k85_whole_canvases_by_pictu w) 3 "check_turned" C (s_check_keep (kin K) (He.ga K "Lost")) := m_check_keep hF (mm_checkk S) T hL
  have m_turnK' : ∀ C, (kin K).kpg C → MU PySem.Challenge.pw_turnedpixels_k85_whole_canvases_by_pictu w K mg base (L2.CX PySem.Challenge.pw_turnedpixels_k85_whole_canvases_by_pictu w) 7 "turn" C (s_turnK (kin K) (He.ga K "Lost")) := m_turnK hF (fun C hC => mm_turn S C (hF.kpg C hC)) T h_turned_picture m_checkk' m_go'
  have m_deeds' : ∀ C, (kin K).fam C → PU PySem.Challenge.pw_turnedpixels_k85_whole_canvases_by_pictu w K mg base C8.CX0 1 "deeds" C (s_deeds (kin K)) := m_deeds hF (pp_deeds S) T
  have m_lostn' : ∀ C, (kin K).cnt C → MU PySem.Challenge.pw_turnedpixels_k85_whole_canvases_by_pictu w K mg base C8.CX0 1 "lost_number" C (s_lostn (kin K)) := m_lostn hF (mm_lostn S) T
  have m_lost' : ∀ C, (kin K).cnt C → PU PySem.Challenge.pw_turnedpixels_k85_whole_canvases_by_pictu w K mg base C8.CX0 2 "lost" C (s_lost (kin K)) := m_lost hF (pp_lost S) T m_lostn'
  have k0 : Mkr PySem.Challenge.pw_turnedpixels_k85_whole_canvases_by_pictu w K mg base 5 "Canvas" (He.ga K "Canvas") (s_init (kin K)) := mkr_of (He.mkr_ok (S.1 (.mkr "Canvas") (List.mem_of_getElem? (i := 80) rfl))) (m_init' _ (.inl rfl)) (He.glo_ok X G (S.1 (.glo "Canvas") (List.mem_of_getElem? (i := 74) rfl)))
  have k1 : Mkr PySem.Challenge.pw_turnedpixels_k85_whole_canvases_by_pictu w K mg base 5 "KeepingCanvas" (He.ga K "KeepingCanvas") (s_init (kin K)) := mkr_of (He.mkr_ok (S.1 (.mkr "KeepingCanvas") (List.mem_of_getElem? (i := 86) rfl))) (m_init' _ (.inr (.inl rfl))) (He.glo_ok X G (S.1 (.glo "KeepingCanvas") (List.mem_of_getElem? (i := 75) rfl)))
  have k2 : Mkr PySem.Challenge.pw_turnedpixels_k85_whole_canvases_by_pictu w K mg base 5 "CountingCanvas" (He.ga K "CountingCanvas") (s_init (kin K)) := mkr_of (He.mkr_ok (S.1 (.mkr "CountingCanvas") (List.mem_of_getElem? (i := 92) rfl))) (m_init' _ (.inr (.inr (.inl rfl)))) (He.glo_ok X G (S.1 (.glo "CountingCanvas") (List.mem_of_getElem? (i := 76) rfl)))
  have k3 : Mkr PySem.Challenge.pw_turnedpixels_k85_whole_canvases_by_pictu w K mg base 5 "KeepingCountingCanvas" (He.ga K "KeepingCountingCanvas") (s_init (kin K)) := mkr_of (He.mkr_ok (S.1 (.mkr "KeepingCountingCanvas") (List.mem_of_getElem? (i := 98) rfl))) (m_init' _ (.inr (.inr (.inr rfl)))) (He.glo_ok X G (S.1 (.glo "KeepingCountingCanvas") (List.mem_of_getElem? (i := 77) rfl)))
  have h__law_turned_right : Cal PySem.Challenge.pw_turnedpixels_k85_whole_canvases_by_pictu w K mg base 12 "_law_turned_right" s__law_turned_right [] := c__law_turned_right (d__law_turned_right X G S) T h_keeps_all h_there_and_back h_back h_is_picture h_meetings_in h_lost_number h_turned_picture hF hL (.inr rfl) (.inl rfl) (.inl rfl) (.inr rfl) k1 k2 k3 m_turn' m_turnK' m_pixels' m_pixelsQ' m_lost' m_len'
  have h__law_walked_right : Cal PySem.Challenge.pw_turnedpixels_k85_whole_canvases_by_pictu w K mg base 12 "_law_walked_right" s__law_walked_right [] := c__law_walked_right (d__law_walked_right X G S) T h_unsheared h_sheared_picture h_back h_walked_picture h__law_draw hF (.inl rfl) (.inr (.inl rfl)) (.inr (.inr (.inl rfl))) (.inr (.inr (.inr rfl))) k0 k1 k2 k3 m_walk' m_shear' m_pixels' m_deeds'
  exact ok_law F0 T h__law_turned_right h__law_walked_right h__law_spin h__law_dots h__law_keeper h__law_draw h__law_source
end TP


set_option Elab.async false
set_option linter.all false
set_option maxRecDepth 100000
set_option maxHeartbeats 0
namespace TP
open PySem PySem.Spec PyProof.Rows L2 NdefX
abbrev R : PySem.W.OpenRow := PySem.W.OpenLaw.row PySem.Challenge.rw_turnedpixels_k85_whole_canvases_by_pictu
abbrev hk : PySem.W.Hook := hookY 6 fa ats prs file
def ob (s : PySem.W.SharedT) : AlY := obsYG 6 fa ats prs file (HandSHeadRun.getT s)
theorem ob_eq (s : PySem.W.SharedT) : ob s = hk.obs s.abs := obsYG_eq (HandSHeadRun.getT_eq s)
theorem run (w : World) : HandSHeadRun.RunEq R (PySem.W.view R.prog [77]) hk ob 12000 names w := by
  intro os
  kernel_rfl
end TP


set_option Elab.async false
set_option linter.all false
set_option maxRecDepth 100000
set_option maxHeartbeats 0
namespace TP
open PySem PySem.Spec PyProof.Rows L2 NdefX
theorem law_facts {w : World} {K : PySem.W.Frag} {mg : Str → Option Value} {h : Heap} {f : Addr} (X : K.In h) (G : h.Ns mainGlobals mg) (S : Says K) (hf : mg ("law" : Str) = some (.ref f)) :
    ∃ fd : FuncData, (∀ (s : Shared) (v : Value), BindsTo s fd ⟨[v], []⟩ [("_law_script", v)]) ∧ ∀ base : Heap, FnOk PySem.Challenge.pw_turnedpixels_k85_whole_canvases_by_pictu w K mg base C8.CX0 13 f fd ["_law_script"] (s_law K) := by
  have e0 : mg ("law" : Str) = some (.ref (He.ga K "law")) := He.glo_ok X G (S.1 (.glo "law") (List.mem_of_getElem? (i := 73) rfl))
  obtain ⟨fd, F⟩ : ∃ fd, FunD K "law" "law" (defArgs (top 77)) (defBody (top 77)) (defScope (top 77)) [] [] (He.ga K "law") fd := (At.funD (d := (⟨fun K => He.ga K "law", "law", "law", top 77, []⟩ : At)) (S.2.1 _ (List.mem_of_getElem? (i := 53) rfl)).2 (S.2.1 _ (List.mem_of_getElem? (i := 53) rfl)).1 rfl)
  have e := hf.symm.trans e0
  cases e
  have b := FunD.bindsA (ps := ["_law_script"]) F fun _ _ _ _ _ _ us hl => match us, hl with | [_], _ => rfl
  exact ⟨fd, fun s v => b s [v] rfl, fun base => law_ok X G S F⟩
end TP
open PySem PySem.W PySem.Calls PyProof.Rows
theorem PySem.Challenge.cw_turnedpixels_k85_whole_canvases_by_pictu_holds : PySem.Challenge.rw_turnedpixels_k85_whole_canvases_by_pictu.Holds := by
  w_on; o_law
  refine HandSHeadRun.head_any (r := TP.R) (q := view TP.R.prog [77]) (H := TP.hk) (ob := TP.ob) (M := 12000) (loose := TP.names) (d := HandSHeadRun.topDef TP.R.prog 77) (kwd := []) TP.ob_eq
    (by kernel_rfl) (fun s => by kernel_rfl) TP.run (by kernel_rfl) (by kernel_rfl) (by kernel_rfl) (by rfl) (by first | assumption | decide +kernel) (by decide +kernel) ⟨rfl, rfl, rfl, rfl, rfl, by decide +kernel⟩ ?hw ?hc
  case hw => w_witness2
  case hc =>
    refine L2.walk_ofE (l := PySem.Challenge.rw_turnedpixels_k85_whole_canvases_by_pictu) (n := 63) (k := 13) (x := "_law_script") (CX := C8.CX0) rfl (by decide) (by kernel_rfl) ⟨rfl, by decide, by decide⟩ ?F (fun _ _ _ _ z => z)
    intro w mg fa h Y G hmg0
    obtain ⟨K, KX, c⟩ := Y
    have hmg : mg ("law" : PySem.Str) = some (.ref fa) := by
      have e : (HandSHeadRun.topDef TP.R.prog 77).name = ("law" : PySem.Str) := by kernel_rfl
      rw [← e]
      exact hmg0
    obtain ⟨fd, hb, hF⟩ := TP.law_facts (w := w) KX G (TP.SaysY.all c) hmg
    exact ⟨K, fd, TP.s_law K, KX, hb, fun H a ns hl _ hS => ⟨a, ns, rfl, hS, hl, fun _ => rfl⟩, fun base _ _ => hF base⟩

