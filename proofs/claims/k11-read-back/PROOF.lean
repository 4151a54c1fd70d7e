import PyProof.Rows.All
import Wide.All
import OpenK.AllK
import Wide.FinOn
import HandS.ForMost
import HandS.More
import HandS.Conv
import HandS.DictComp
import HandS.FStr
import HandS.IsInst
import HandS.TupAny
import HandS.TupMul
import HandS.Style
import HandS.ClsMeth
import HandS.ListItems
import HandS.Wide
import HandS.WideMore
import HandS.Zip
import HandS.Walk
import HandS.SortOrd
import KE.SortData
import PySem.Challenge.RW_sameshown_k11_whole_signs_read_back
import HandS.Evl
set_option Elab.async false
set_option linter.all false
set_option maxRecDepth 100000
set_option maxHeartbeats 4000000
/-! K11Math: the coder of signs, in plain Lean: no program in sight. -/
namespace K11
section
variable {κ : Type} [DecidableEq κ]

def look (l : List (κ × Int)) (k : κ) : Int := ((l.find? fun p => decide (p.1 = k)).map (·.2)).getD 1024
def put (l : List (κ × Int)) (k : κ) (c : Int) : List (κ × Int) :=
  if (l.any fun p => decide (p.1 = k)) = true then l.map (fun p => if p.1 = k then (p.1, c) else p) else l ++ [(k, c)]

structure Cs (κ : Type) where
  low : Int
  br : Int
  n : Nat
  lrn : List (κ × Int)

def nar (s : Cs κ) (pt v : Int) : Cs κ :=
  if (if v = 0 then pt else s.br - pt) < 16777216 then ⟨(if v = 0 then s.low else s.low + pt) * 256, (if v = 0 then pt else s.br - pt) * 256, s.n + 1, s.lrn⟩
  else ⟨(if v = 0 then s.low else s.low + pt), (if v = 0 then pt else s.br - pt), s.n, s.lrn⟩
def upC (c v : Int) : Int := if v = 0 then c + (2048 - c) / 32 else c - c / 32
def bitS (s : Cs κ) (k : κ) (v : Int) : Cs κ := { nar s (s.br / 2048 * look s.lrn k) v with lrn := put s.lrn k (upC (look s.lrn k) v) }
def evS (s : Cs κ) (v : Int) : Cs κ := nar s (s.br / 2048 * 1024) v
def cs0 : Cs κ := ⟨0, 4294967296, 0, []⟩

structure Ok (s : Cs κ) : Prop where
  b0 : 16777216 ≤ s.br
  b1 : s.br ≤ 4294967296
  l0 : 0 ≤ s.low
  lr : s.low + s.br ≤ 4294967296 * 256 ^ s.n
  ch : ∀ p ∈ s.lrn, 31 ≤ p.2 ∧ p.2 ≤ 2017

omit [DecidableEq κ] in
theorem ok0 : Ok (cs0 : Cs κ) := ⟨by show (16777216 : Int) ≤ 4294967296; decide, by show (4294967296 : Int) ≤ 4294967296; decide, by show (0 : Int) ≤ 0; decide, by show (0 : Int) + 4294967296 ≤ 4294967296 * 256 ^ 0; decide, fun p h => by cases h⟩

theorem look_mem {l : List (κ × Int)} {k : κ} (h : ∀ p ∈ l, 31 ≤ p.2 ∧ p.2 ≤ 2017) : 31 ≤ look l k ∧ look l k ≤ 2017 := by
  unfold look
  cases e : l.find? fun p => decide (p.1 = k) with
  | none => exact ⟨by show (31 : Int) ≤ 1024; decide, by show (1024 : Int) ≤ 2017; decide⟩
  | some p => exact h p (List.mem_of_find?_eq_some e)

theorem put_mem {l : List (κ × Int)} {k : κ} {c : Int} {p : κ × Int} (h : p ∈ put l k c) : p ∈ l ∨ p = (k, c) := by
  unfold put at h
  split at h
  · obtain ⟨q, hq, rfl⟩ := List.mem_map.mp h
    by_cases e : q.1 = k
    · rw [if_pos e, e]; exact .inr rfl
    · rw [if_neg e]; exact .inl hq
  · rcases List.mem_append.mp h with h | h
    · exact .inl h
    · exact .inr (List.mem_singleton.mp h)

theorem upC_ok {c v : Int} (h : 31 ≤ c ∧ c ≤ 2017) : 31 ≤ upC c v ∧ upC c v ≤ 2017 := by
  unfold upC
  split <;> omega

/-- what a part is -/
theorem part_ok {b c : Int} (h : 16777216 ≤ b) (hc : 31 ≤ c ∧ c ≤ 2017) : b / 2048 * 31 ≤ b / 2048 * c ∧ b / 2048 * c ≤ b / 2048 * 2017 ∧ 8192 ≤ b / 2048 ∧ b / 2048 * 2048 ≤ b ∧ b < b / 2048 * 2048 + 2048 := by
  have q : 8192 ≤ b / 2048 := by omega
  refine ⟨Int.mul_le_mul_of_nonneg_left hc.1 (by omega), Int.mul_le_mul_of_nonneg_left hc.2 (by omega), q, by omega, by omega⟩

theorem pow256_pos (n : Nat) : (0 : Int) < 256 ^ n := Int.pow_pos (by decide)

theorem nar_ok {s : Cs κ} (o : Ok s) {c v : Int} (hc : 31 ≤ c ∧ c ≤ 2017) : Ok (nar s (s.br / 2048 * c) v) := by
  obtain ⟨b0, b1, l0, lr, ch⟩ := o
  obtain ⟨p1, p2, p3, p4, p5⟩ := part_ok b0 hc
  have lo : 0 ≤ (if v = 0 then s.low else s.low + s.br / 2048 * c) ∧ 65536 ≤ (if v = 0 then s.br / 2048 * c else s.br - s.br / 2048 * c) ∧ (if v = 0 then s.br / 2048 * c else s.br - s.br / 2048 * c) ≤ 4294967296 ∧
      (if v = 0 then s.low else s.low + s.br / 2048 * c) + (if v = 0 then s.br / 2048 * c else s.br - s.br / 2048 * c) ≤ s.low + s.br := by
    generalize s.br / 2048 = q at *
    generalize q * c = pt at *
    by_cases hv : v = 0
    · simp only [if_pos hv]; omega
    · simp only [if_neg hv]; omega
  unfold nar
  generalize (if v = 0 then s.low else s.low + s.br / 2048 * c) = x at *
  generalize (if v = 0 then s.br / 2048 * c else s.br - s.br / 2048 * c) = b at *
  obtain ⟨a1, a2, a3, a4⟩ := lo
  by_cases h : b < 16777216
  · rw [if_pos h]
    refine ⟨by show 16777216 ≤ b * 256; omega, by show b * 256 ≤ 4294967296; omega, by show 0 ≤ x * 256; omega, ?_, ch⟩
    show x * 256 + b * 256 ≤ 4294967296 * 256 ^ (s.n + 1)
    rw [Int.pow_succ]
    generalize (256 : Int) ^ s.n = z at *
    omega
  · rw [if_neg h]
    refine ⟨by show 16777216 ≤ b; omega, a3, a1, ?_, ch⟩
    show x + b ≤ 4294967296 * 256 ^ s.n
    omega

theorem bit_ok {s : Cs κ} (o : Ok s) (k : κ) (v : Int) : Ok (bitS s k v) := by
  have c := look_mem (k := k) o.ch
  obtain ⟨b0, b1, l0, lr, ch⟩ := nar_ok (v := v) o c
  refine ⟨b0, b1, l0, lr, fun p hp => ?_⟩
  rcases put_mem hp with h | rfl
  · exact o.ch p h
  · exact upC_ok c
theorem ev_ok {s : Cs κ} (o : Ok s) (v : Int) : Ok (evS s v) := nar_ok o ⟨by decide, by decide⟩
theorem bit_lrn (s : Cs κ) (k : κ) (v : Int) : (bitS s k v).lrn = put s.lrn k (upC (look s.lrn k) v) := rfl
theorem ev_lrn (s : Cs κ) (v : Int) : (evS s v).lrn = s.lrn := by
  unfold evS nar
  generalize (if v = 0 then s.br / 2048 * 1024 else s.br - s.br / 2048 * 1024) = b
  by_cases h : b < 16777216
  · rw [if_pos h]
  · rw [if_neg h]

theorem nar_lrn (s : Cs κ) (pt v : Int) : (nar s pt v).lrn = s.lrn := by
  unfold nar
  generalize (if v = 0 then pt else s.br - pt) = b
  by_cases h : b < 16777216
  · rw [if_pos h]
  · rw [if_neg h]

/-! ### letters as a number -/
def cd (L : List Int) : Nat → Int
  | 0 => 0
  | m + 1 => cd L m * 256 + L.getD m 0
def Good (L : List Int) : Prop := ∀ x ∈ L, 0 ≤ x ∧ x ≤ 255
theorem good_getD {L : List Int} (g : Good L) (i : Nat) : 0 ≤ L.getD i 0 ∧ L.getD i 0 ≤ 255 := by
  rw [List.getD_eq_getElem?_getD]
  cases e : L[i]? with
  | none => exact ⟨by decide, by decide⟩
  | some x => exact g x (List.mem_of_getElem? e)
theorem cd_zeros (L : List Int) (j : Nat) : ∀ m, cd (L ++ List.replicate j 0) m = cd L m
  | 0 => rfl
  | m + 1 => by
    have e : (L ++ List.replicate j 0).getD m 0 = L.getD m 0 := by
      rw [List.getD_eq_getElem?_getD, List.getD_eq_getElem?_getD]
      by_cases h : m < L.length
      · rw [List.getElem?_append_left h]
      · rw [List.getElem?_append_right (by omega), List.getElem?_replicate]
        rw [List.getElem?_eq_none (show L.length ≤ m by omega)]
        split <;> rfl
    show cd (L ++ List.replicate j 0) m * 256 + _ = cd L m * 256 + _
    rw [cd_zeros L j m, e]

/-- the letters tell a number of the part that is left -/
def In (L : List Int) (s : Cs κ) : Prop := s.low ≤ cd L (s.n + 4) ∧ cd L (s.n + 4) < s.low + s.br
def dec (L : List Int) (s : Cs κ) (c : Int) : Int := if s.low + s.br / 2048 * c ≤ cd L (s.n + 4) then 1 else 0
theorem dec_01 (L : List Int) (s : Cs κ) (c : Int) : dec L s c = 0 ∨ dec L s c = 1 := by
  unfold dec; split
  · exact .inr rfl
  · exact .inl rfl

theorem in_nar {L : List Int} (g : Good L) {s : Cs κ} (o : Ok s) {c v : Int} (hc : 31 ≤ c ∧ c ≤ 2017) (hv : v = 0 ∨ v = 1) (i : In L (nar s (s.br / 2048 * c) v)) : In L s ∧ dec L s c = v := by
  obtain ⟨b0, b1, l0, lr, ch⟩ := o
  obtain ⟨p1, p2, p3, p4, p5⟩ := part_ok b0 hc
  have gl := good_getD g (s.n + 4)
  have e : cd L (s.n + 1 + 4) = cd L (s.n + 4) * 256 + L.getD (s.n + 4) 0 := by
    rw [show s.n + 1 + 4 = (s.n + 4) + 1 by omega]; rfl
  have k : (if v = 0 then s.low else s.low + s.br / 2048 * c) ≤ cd L (s.n + 4) ∧ cd L (s.n + 4) < (if v = 0 then s.low else s.low + s.br / 2048 * c) + (if v = 0 then s.br / 2048 * c else s.br - s.br / 2048 * c) := by
    unfold In nar at i
    generalize (if v = 0 then s.low else s.low + s.br / 2048 * c) = x at *
    generalize (if v = 0 then s.br / 2048 * c else s.br - s.br / 2048 * c) = b at *
    by_cases h : b < 16777216
    · rw [if_pos h] at i
      have i1 : x * 256 ≤ cd L (s.n + 1 + 4) := i.1
      have i2 : cd L (s.n + 1 + 4) < x * 256 + b * 256 := i.2
      rw [e] at i1 i2
      omega
    · rw [if_neg h] at i
      exact i
  unfold In dec
  generalize s.br / 2048 = q at *
  generalize q * c = pt at *
  generalize cd L (s.n + 4) = z at *
  rcases hv with rfl | rfl
  · rw [if_pos rfl, if_pos rfl] at k
    rw [if_neg (show ¬ s.low + pt ≤ z by omega)]
    exact ⟨by omega, rfl⟩
  · rw [if_neg (by decide), if_neg (by decide)] at k
    rw [if_pos (show s.low + pt ≤ z by omega)]
    exact ⟨by omega, rfl⟩

theorem in_bit {L : List Int} (g : Good L) {s : Cs κ} (o : Ok s) {k : κ} {v : Int} (hv : v = 0 ∨ v = 1) (i : In L (bitS s k v)) : In L s ∧ dec L s (look s.lrn k) = v :=
  in_nar g o (look_mem o.ch) hv i
theorem in_ev {L : List Int} (g : Good L) {s : Cs κ} (o : Ok s) {v : Int} (hv : v = 0 ∨ v = 1) (i : In L (evS s v)) : In L s ∧ dec L s 1024 = v :=
  in_nar g o ⟨by decide, by decide⟩ hv i

/-! ### numbers -/
/-- the lower k signs of n, the greatest first -/
def lows (n k : Nat) : List Int := ((List.range k).map fun i => ((n / 2 ^ i % 2 : Nat) : Int)).reverse
def onesS (f : Nat → κ) : Nat → Cs κ → Cs κ
  | 0, s => s
  | i + 1, s => bitS (onesS f i s) (f i) 1
def wrNum (f : Nat → κ) (n m : Nat) (s : Cs κ) : Cs κ :=
  (lows (n + 1) (n + 1).log2).foldl evS (if (n + 1).log2 < (m + 1).log2 then bitS (onesS f (n + 1).log2 s) (f (n + 1).log2) 0 else onesS f (n + 1).log2 s)
def rdK (L : List Int) (f : Nat → κ) : Nat → Nat → Cs κ → Nat × Cs κ
  | 0, k, s => (k, s)
  | d + 1, k, s => if dec L s (look s.lrn (f k)) = 1 then rdK L f d (k + 1) (bitS s (f k) 1) else (k, bitS s (f k) (dec L s (look s.lrn (f k))))
def eS (L : List Int) : Nat → Cs κ → Int × Cs κ
  | 0, s => (1, s)
  | j + 1, s => (2 * (eS L j s).1 + dec L (eS L j s).2 1024, evS (eS L j s).2 (dec L (eS L j s).2 1024))
def rdNum (L : List Int) (f : Nat → κ) (m : Nat) (s : Cs κ) : Int × Cs κ :=
  (min ((eS L (rdK L f (m + 1).log2 0 s).1 (rdK L f (m + 1).log2 0 s).2).1 - 1) (m : Int), (eS L (rdK L f (m + 1).log2 0 s).1 (rdK L f (m + 1).log2 0 s).2).2)

theorem lows_length (n k : Nat) : (lows n k).length = k := by simp [lows]
theorem lows_01 {n k : Nat} {v : Int} (h : v ∈ lows n k) : v = 0 ∨ v = 1 := by
  unfold lows at h
  rw [List.mem_reverse] at h
  obtain ⟨i, _, rfl⟩ := List.mem_map.mp h
  omega
theorem lows_get {n k j : Nat} (h : j < k) : (lows n k)[j]? = some ((n / 2 ^ (k - 1 - j) % 2 : Nat) : Int) := by
  unfold lows
  rw [List.getElem?_reverse (by simp; omega)]
  simp only [List.length_map, List.length_range, List.getElem?_map]
  rw [List.getElem?_range (by omega)]
  rfl

theorem ones_ok {f : Nat → κ} {s : Cs κ} (o : Ok s) : ∀ k, Ok (onesS f k s)
  | 0 => o
  | k + 1 => bit_ok (ones_ok o k) _ _
theorem fold_ok : ∀ {s : Cs κ} (_ : Ok s) (vs : List Int), Ok (vs.foldl evS s)
  | _, o, [] => o
  | _, o, v :: r => fold_ok (ev_ok o v) r
theorem wrNum_ok {f : Nat → κ} {n m : Nat} {s : Cs κ} (o : Ok s) : Ok (wrNum f n m s) := by
  unfold wrNum
  refine fold_ok ?_ _
  split
  · exact bit_ok (ones_ok o _) _ _
  · exact ones_ok o _
theorem rdK_ok {L : List Int} {f : Nat → κ} : ∀ (d k : Nat) {s : Cs κ}, Ok s → Ok (rdK L f d k s).2
  | 0, _, _, o => o
  | d + 1, k, s, o => by
    unfold rdK
    split
    · exact rdK_ok d (k + 1) (bit_ok o _ _)
    · exact bit_ok o _ _
theorem rdK_le {L : List Int} {f : Nat → κ} : ∀ (d k : Nat) (s : Cs κ), (rdK L f d k s).1 ≤ k + d
  | 0, _, _ => Nat.le_refl _
  | d + 1, k, s => by
    unfold rdK
    split
    · have := rdK_le (L := L) (f := f) d (k + 1) (bitS s (f k) 1); omega
    · show k ≤ k + (d + 1); omega
theorem eS_ok {L : List Int} {s : Cs κ} (o : Ok s) : ∀ j, Ok (eS L j s).2
  | 0 => o
  | j + 1 => ev_ok (eS_ok o j) _
theorem rdNum_ok {L : List Int} {f : Nat → κ} {m : Nat} {s : Cs κ} (o : Ok s) : Ok (rdNum L f m s).2 := eS_ok (rdK_ok _ _ o) _

theorem in_ones {L : List Int} (g : Good L) {f : Nat → κ} {s : Cs κ} (o : Ok s) : ∀ k, In L (onesS f k s) → In L s ∧ ∀ d, rdK L f (d + k) 0 s = rdK L f d k (onesS f k s)
  | 0, i => ⟨i, fun _ => rfl⟩
  | k + 1, i => by
    obtain ⟨i1, e1⟩ := in_bit g (ones_ok o k) (.inr rfl) i
    obtain ⟨i2, e2⟩ := in_ones g o k i1
    refine ⟨i2, fun d => ?_⟩
    rw [show d + (k + 1) = (d + 1) + k by omega, e2 (d + 1)]
    show (if dec L (onesS f k s) (look (onesS f k s).lrn (f k)) = 1 then _ else _) = _
    rw [if_pos e1]
    rfl

theorem half_step (n j : Nat) : 2 * (n / 2 ^ (j + 1)) + n / 2 ^ j % 2 = n / 2 ^ j := by
  rw [Nat.pow_succ, ← Nat.div_div_eq_div_mul]
  omega

theorem in_fold {L : List Int} (g : Good L) {s : Cs κ} (o : Ok s) {n k : Nat} (hk : n / 2 ^ k = 1) : ∀ j, j ≤ k → In L (((lows n k).take j).foldl evS s) → In L s ∧ eS L j s = (((n / 2 ^ (k - j) : Nat) : Int), ((lows n k).take j).foldl evS s)
  | 0, _, i => ⟨i, by rw [Nat.sub_zero, hk]; rfl⟩
  | j + 1, hj, i => by
    have e : (lows n k).take (j + 1) = (lows n k).take j ++ [((n / 2 ^ (k - 1 - j) % 2 : Nat) : Int)] := by
      rw [List.take_add_one, lows_get (by omega)]; rfl
    rw [e, List.foldl_append] at i
    have hv : ((n / 2 ^ (k - 1 - j) % 2 : Nat) : Int) = 0 ∨ ((n / 2 ^ (k - 1 - j) % 2 : Nat) : Int) = 1 := by omega
    obtain ⟨i1, e1⟩ := in_ev g (fold_ok o _) hv i
    obtain ⟨i2, e2⟩ := in_fold g o hk j (by omega) i1
    refine ⟨i2, ?_⟩
    rw [e, List.foldl_append]
    show (2 * (eS L j s).1 + dec L (eS L j s).2 1024, evS (eS L j s).2 (dec L (eS L j s).2 1024)) = _
    rw [e2, e1]
    have hs := half_step n (k - 1 - j)
    rw [show k - 1 - j + 1 = k - j by omega] at hs
    have : (2 : Int) * ((n / 2 ^ (k - j) : Nat) : Int) + ((n / 2 ^ (k - 1 - j) % 2 : Nat) : Int) = ((n / 2 ^ (k - (j + 1)) : Nat) : Int) := by
      rw [show k - (j + 1) = k - 1 - j by omega]; omega
    show ((2 : Int) * ((n / 2 ^ (k - j) : Nat) : Int) + ((n / 2 ^ (k - 1 - j) % 2 : Nat) : Int), _) = _
    rw [this]
    rfl

theorem log2_top {n : Nat} (h : n ≠ 0) : n / 2 ^ n.log2 = 1 := by
  have h1 := Nat.log2_self_le h
  have h2 := @Nat.lt_log2_self n
  rw [Nat.pow_succ] at h2
  have : 0 < 2 ^ n.log2 := Nat.two_pow_pos _
  rw [Nat.div_eq_of_lt_le] <;> omega
theorem log2_mono {a b : Nat} (h0 : a ≠ 0) (h : a ≤ b) : a.log2 ≤ b.log2 :=
  (Nat.le_log2 (by omega)).mpr (Nat.le_trans (Nat.log2_self_le h0) h)

theorem in_num {L : List Int} (g : Good L) {f : Nat → κ} {n m : Nat} (hn : n ≤ m) {s : Cs κ} (o : Ok s) (i : In L (wrNum f n m s)) : In L s ∧ rdNum L f m s = ((n : Int), wrNum f n m s) := by
  have hk : (n + 1) / 2 ^ (n + 1).log2 = 1 := log2_top (by omega)
  have hle : (n + 1).log2 ≤ (m + 1).log2 := log2_mono (by omega) (by omega)
  have key : ∀ s2 : Cs κ, Ok s2 → (In L s2 → In L s ∧ rdK L f (m + 1).log2 0 s = ((n + 1).log2, s2)) → In L ((lows (n + 1) (n + 1).log2).foldl evS s2) → In L s ∧ rdNum L f m s = ((n : Int), (lows (n + 1) (n + 1).log2).foldl evS s2) := by
    intro s2 o2 h2 i2
    have et : (lows (n + 1) (n + 1).log2).take (n + 1).log2 = lows (n + 1) (n + 1).log2 := List.take_of_length_le (by rw [lows_length]; exact Nat.le_refl _)
    obtain ⟨a1, a2⟩ := in_fold g o2 hk (n + 1).log2 (Nat.le_refl _) (by rw [et]; exact i2)
    rw [et] at a2
    obtain ⟨b1, b2⟩ := h2 a1
    refine ⟨b1, ?_⟩
    unfold rdNum
    rw [b2]
    show (min ((eS L (n + 1).log2 s2).1 - 1) (m : Int), (eS L (n + 1).log2 s2).2) = _
    rw [a2]
    have e1 : (n + 1) / 2 ^ ((n + 1).log2 - (n + 1).log2) = n + 1 := by rw [Nat.sub_self, Nat.pow_zero, Nat.div_one]
    rw [e1]
    show (min (((n + 1 : Nat) : Int) - 1) (m : Int), _) = _
    rw [show (((n + 1 : Nat) : Int) - 1) = (n : Int) by omega, Int.min_eq_left (by omega)]
  unfold wrNum at i ⊢
  by_cases hlt : (n + 1).log2 < (m + 1).log2
  · rw [if_pos hlt] at i ⊢
    refine key _ (bit_ok (ones_ok o _) _ _) (fun i2 => ?_) i
    obtain ⟨i3, e3⟩ := in_bit g (ones_ok o _) (.inl rfl) i2
    obtain ⟨i4, e4⟩ := in_ones g o _ i3
    refine ⟨i4, ?_⟩
    obtain ⟨d, hd⟩ : ∃ d, (m + 1).log2 = (d + 1) + (n + 1).log2 := ⟨(m + 1).log2 - (n + 1).log2 - 1, by omega⟩
    rw [hd, e4 (d + 1)]
    show (if dec L (onesS f (n + 1).log2 s) (look (onesS f (n + 1).log2 s).lrn (f (n + 1).log2)) = 1 then _ else _) = _
    rw [e3, if_neg (by decide)]
  · rw [if_neg hlt] at i ⊢
    refine key _ (ones_ok o _) (fun i2 => ?_) i
    obtain ⟨i4, e4⟩ := in_ones g o _ i2
    refine ⟨i4, ?_⟩
    have hd : (m + 1).log2 = 0 + (n + 1).log2 := by omega
    have e5 := e4 0
    rw [← hd] at e5
    rw [e5]
    rfl

/-! ### what is asked -/
inductive Ask (κ : Type) where
  | ev
  | bit (x : κ)
  | num (x : κ) (m : Nat)
def Ask.fits : Ask κ → Int → Prop
  | .ev, v => v = 0 ∨ v = 1
  | .bit _, v => v = 0 ∨ v = 1
  | .num _ m, v => 0 ≤ v ∧ v ≤ (m : Int)
def wr (nk : κ → Nat → κ) (s : Cs κ) : Ask κ → Int → Cs κ
  | .ev, v => evS s v
  | .bit x, v => bitS s x v
  | .num x m, v => wrNum (nk x) v.toNat m s
def rd (nk : κ → Nat → κ) (L : List Int) (s : Cs κ) : Ask κ → Int × Cs κ
  | .ev => (dec L s 1024, evS s (dec L s 1024))
  | .bit x => (dec L s (look s.lrn x), bitS s x (dec L s (look s.lrn x)))
  | .num x m => rdNum L (nk x) m s
theorem wr_ok {nk : κ → Nat → κ} {s : Cs κ} (o : Ok s) : ∀ (a : Ask κ) (v : Int), Ok (wr nk s a v)
  | .ev, v => ev_ok o v
  | .bit x, v => bit_ok o x v
  | .num _ _, _ => wrNum_ok o
theorem rd_ok {nk : κ → Nat → κ} {L : List Int} {s : Cs κ} (o : Ok s) : ∀ (a : Ask κ), Ok (rd nk L s a).2
  | .ev => ev_ok o _
  | .bit x => bit_ok o x _
  | .num _ _ => rdNum_ok o
theorem in_ask {nk : κ → Nat → κ} {L : List Int} (g : Good L) {s : Cs κ} (o : Ok s) : ∀ {a : Ask κ} {v : Int}, a.fits v → In L (wr nk s a v) → In L s ∧ rd nk L s a = (v, wr nk s a v)
  | .ev, v, h, i => by
    obtain ⟨a, b⟩ := in_ev g o h i
    refine ⟨a, ?_⟩
    show (dec L s 1024, evS s (dec L s 1024)) = _
    rw [b]; rfl
  | .bit x, v, h, i => by
    obtain ⟨a, b⟩ := in_bit g o h i
    refine ⟨a, ?_⟩
    show (dec L s (look s.lrn x), bitS s x (dec L s (look s.lrn x))) = _
    rw [b]; rfl
  | .num x m, v, h, i => by
    have h' : 0 ≤ v ∧ v ≤ (m : Int) := h
    obtain ⟨a, b⟩ := in_num g (n := v.toNat) (m := m) (by omega) o i
    refine ⟨a, ?_⟩
    show rdNum L (nk x) m s = _
    rw [b, show ((v.toNat : Nat) : Int) = v by omega]; rfl
/-- a row of asks with their values -/
def wrs (nk : κ → Nat → κ) : List (Ask κ × Int) → Cs κ → Cs κ
  | [], s => s
  | p :: r, s => wrs nk r (wr nk s p.1 p.2)
theorem wrs_ok {nk : κ → Nat → κ} : ∀ (l : List (Ask κ × Int)) {s : Cs κ}, Ok s → Ok (wrs nk l s)
  | [], _, o => o
  | p :: r, _, o => wrs_ok r (wr_ok o p.1 p.2)
theorem wrs_append (nk : κ → Nat → κ) : ∀ (l r : List (Ask κ × Int)) (s : Cs κ), wrs nk (l ++ r) s = wrs nk r (wrs nk l s)
  | [], _, _ => rfl
  | p :: l, r, s => wrs_append nk l r (wr nk s p.1 p.2)
theorem in_wrs {nk : κ → Nat → κ} {L : List Int} (g : Good L) : ∀ (l : List (Ask κ × Int)) {s : Cs κ}, Ok s → (∀ p ∈ l, p.1.fits p.2) → In L (wrs nk l s) → In L s
  | [], _, _, _, i => i
  | p :: r, s, o, h, i => (in_ask g o (h p (List.mem_cons_self ..)) (in_wrs g r (wr_ok o p.1 p.2) (fun q hq => h q (List.mem_cons_of_mem _ hq)) i)).1
/-- at each place of a row a reader of the letters reads what was written there -/
theorem reads {nk : κ → Nat → κ} {L : List Int} (g : Good L) {l : List (Ask κ × Int)} {s : Cs κ} (o : Ok s) (h : ∀ p ∈ l, p.1.fits p.2) (i : In L (wrs nk l s)) {j : Nat} {p : Ask κ × Int} (hj : l[j]? = some p) :
    rd nk L (wrs nk (l.take j) s) p.1 = (p.2, wrs nk (l.take (j + 1)) s) := by
  have e : l.take (j + 1) = l.take j ++ [p] := by rw [List.take_add_one, hj]; rfl
  have i2 : In L (wrs nk (l.take (j + 1)) s) := by
    rw [← List.take_append_drop (j + 1) l, wrs_append] at i
    exact in_wrs g _ (wrs_ok _ o) (fun q hq => h q (List.mem_of_mem_drop hq)) i
  rw [e, wrs_append] at i2 ⊢
  exact (in_ask g (wrs_ok _ o) (h p (List.mem_of_getElem? hj)) i2).2

/-! ### how many letters -/
/-- room is at most F times what is left -/
def Rm (s : Cs κ) (F : Int) : Prop := 4294967296 * 256 ^ s.n ≤ s.br * F
theorem rm_nar {s : Cs κ} (o : Ok s) {F : Int} (hF : 0 ≤ F) (r : Rm s F) {c v M : Int} (hM : s.br ≤ s.br / 2048 * c * M) (hM' : s.br ≤ (s.br - s.br / 2048 * c) * M) : Rm (nar s (s.br / 2048 * c) v) (M * F) := by
  unfold Rm at r
  generalize s.br / 2048 * c = pt at *
  have h1 : s.br * F ≤ pt * M * F := Int.mul_le_mul_of_nonneg_right hM hF
  have h2 : s.br * F ≤ (s.br - pt) * M * F := Int.mul_le_mul_of_nonneg_right hM' hF
  have hb : 4294967296 * 256 ^ s.n ≤ (if v = 0 then pt else s.br - pt) * (M * F) := by
    rw [← Int.mul_assoc]
    split <;> omega
  unfold Rm nar
  generalize (if v = 0 then pt else s.br - pt) = b at *
  split
  · show 4294967296 * 256 ^ (s.n + 1) ≤ b * 256 * (M * F)
    rw [Int.pow_succ, Int.mul_right_comm b 256, ← Int.mul_assoc]
    exact Int.mul_le_mul_of_nonneg_right hb (by decide)
  · exact hb
theorem rm_bit {s : Cs κ} (o : Ok s) {F : Int} (hF : 0 ≤ F) (r : Rm s F) (k : κ) (v : Int) : Rm (bitS s k v) (67 * F) := by
  have c := look_mem (k := k) o.ch
  have p := part_ok o.b0 c
  exact rm_nar (v := v) o hF r (by omega) (by omega)
theorem rm_ev {s : Cs κ} (o : Ok s) {F : Int} (hF : 0 ≤ F) (r : Rm s F) (v : Int) : Rm (evS s v) (3 * F) := by
  have p := part_ok (c := 1024) o.b0 ⟨by decide, by decide⟩
  exact rm_nar (v := v) o hF r (by omega) (by omega)
theorem rm_mono {s : Cs κ} (o : Ok s) {F G : Int} (h : F ≤ G) (r : Rm s F) : Rm s G :=
  Int.le_trans r (Int.mul_le_mul_of_nonneg_left h (Int.le_trans (by decide) o.b0))
theorem rm_ones {f : Nat → κ} {s : Cs κ} (o : Ok s) {F : Int} (hF : 0 ≤ F) (r : Rm s F) : ∀ k, Rm (onesS f k s) (67 ^ k * F)
  | 0 => by rw [Int.pow_zero, Int.one_mul]; exact r
  | k + 1 => by
    rw [Int.pow_succ, Int.mul_comm (67 ^ k), Int.mul_assoc]
    exact rm_bit (ones_ok o k) (Int.mul_nonneg (Int.pow_nonneg (by decide)) hF) (rm_ones o hF r k) _ _
theorem rm_fold : ∀ (vs : List Int) {s : Cs κ} (_ : Ok s) {F : Int} (_ : 0 ≤ F) (_ : Rm s F), Rm (vs.foldl evS s) (3 ^ vs.length * F)
  | [], _, _, _, _, r => by
    show Rm _ (3 ^ 0 * _)
    rw [Int.pow_zero, Int.one_mul]; exact r
  | v :: vs, s, o, F, hF, r => by
    have := rm_fold vs (ev_ok o v) (F := 3 * F) (by omega) (rm_ev o hF r v)
    rw [List.length_cons, Int.pow_succ, Int.mul_assoc]
    exact this
theorem pow_le_pow_int {a : Int} (ha : 1 ≤ a) {j k : Nat} (h : j ≤ k) : a ^ j ≤ a ^ k := by
  obtain ⟨d, rfl⟩ : ∃ d, k = j + d := ⟨k - j, by omega⟩
  rw [Int.pow_add]
  have h1 : (1 : Int) ≤ a ^ d := by
    have : (0 : Int) < a ^ d := Int.pow_pos (show (0 : Int) < a by omega)
    omega
  have h2 : (0 : Int) ≤ a ^ j := Int.pow_nonneg (by omega)
  have := Int.mul_le_mul_of_nonneg_left h1 h2
  omega
theorem rm_num {f : Nat → κ} {n m : Nat} (hn : n ≤ m) (hm : m ≤ 8190) {s : Cs κ} (o : Ok s) {F : Int} (hF : 0 ≤ F) (r : Rm s F) : Rm (wrNum f n m s) (201 ^ 12 * F) := by
  have h12 : (m + 1).log2 ≤ 12 := by
    have h1 := Nat.log2_self_le (n := m + 1) (by omega)
    have : 2 ^ (m + 1).log2 < 2 ^ 13 := by omega
    have := (Nat.pow_lt_pow_iff_right (a := 2) (by decide)).mp this
    omega
  have hle : (n + 1).log2 ≤ (m + 1).log2 := log2_mono (by omega) (by omega)
  have key : ∀ (j : Nat) (s2 : Cs κ), Ok s2 → j ≤ 12 → Rm s2 (67 ^ j * F) → Rm ((lows (n + 1) (n + 1).log2).foldl evS s2) (201 ^ 12 * F) := by
    intro j s2 o2 hj r2
    have q := rm_fold (lows (n + 1) (n + 1).log2) o2 (Int.mul_nonneg (Int.pow_nonneg (by decide)) hF) r2
    rw [lows_length] at q
    refine rm_mono (fold_ok o2 _) ?_ q
    rw [← Int.mul_assoc]
    refine Int.mul_le_mul_of_nonneg_right ?_ hF
    have a1 : (3 : Int) ^ (n + 1).log2 ≤ 3 ^ 12 := pow_le_pow_int (by decide) (by omega)
    have a2 : (67 : Int) ^ j ≤ 67 ^ 12 := pow_le_pow_int (by decide) hj
    have a3 : (0 : Int) ≤ 3 ^ 12 := by decide
    calc (3 : Int) ^ (n + 1).log2 * 67 ^ j ≤ 3 ^ 12 * 67 ^ j := Int.mul_le_mul_of_nonneg_right a1 (Int.pow_nonneg (by decide))
      _ ≤ 3 ^ 12 * 67 ^ 12 := Int.mul_le_mul_of_nonneg_left a2 a3
      _ ≤ 201 ^ 12 := by decide
  unfold wrNum
  split
  · rename_i hlt
    refine key ((n + 1).log2 + 1) _ (bit_ok (ones_ok o _) _ _) (by omega) ?_
    have := rm_bit (ones_ok (f := f) o (n + 1).log2) (Int.mul_nonneg (Int.pow_nonneg (by decide)) hF) (rm_ones (f := f) o hF r (n + 1).log2) (f (n + 1).log2) 0
    rw [Int.pow_succ, Int.mul_comm (67 ^ _), Int.mul_assoc]
    exact this
  · exact key (n + 1).log2 _ (ones_ok o _) (by omega) (rm_ones o hF r _)
def Ask.small : Ask κ → Prop
  | .num _ m => m ≤ 8190
  | _ => True
theorem rm_ask {nk : κ → Nat → κ} {s : Cs κ} (o : Ok s) {F : Int} (hF : 0 ≤ F) (r : Rm s F) : ∀ {a : Ask κ} {v : Int}, a.fits v → a.small → Rm (wr nk s a v) (201 ^ 12 * F)
  | .ev, v, _, _ => rm_mono (ev_ok o v) (Int.mul_le_mul_of_nonneg_right (by decide) hF) (rm_ev o hF r v)
  | .bit x, v, _, _ => rm_mono (bit_ok o x v) (Int.mul_le_mul_of_nonneg_right (by decide) hF) (rm_bit o hF r x v)
  | .num x m, v, h, hm => by
    have h' : 0 ≤ v ∧ v ≤ (m : Int) := h
    exact rm_num (by omega) hm o hF r
theorem rm_wrs {nk : κ → Nat → κ} : ∀ (l : List (Ask κ × Int)) {s : Cs κ} (_ : Ok s) {F : Int} (_ : 0 ≤ F) (_ : Rm s F), (∀ p ∈ l, p.1.fits p.2 ∧ p.1.small) → Rm (wrs nk l s) ((201 ^ 12) ^ l.length * F)
  | [], _, _, _, _, r, _ => by
    show Rm _ ((201 ^ 12) ^ 0 * _)
    rw [Int.pow_zero, Int.one_mul]; exact r
  | p :: l, s, o, F, hF, r, h => by
    have h1 := h p (List.mem_cons_self ..)
    have := rm_wrs (nk := nk) l (wr_ok (nk := nk) o p.1 p.2) (F := 201 ^ 12 * F) (Int.mul_nonneg (by decide) hF) (rm_ask o hF r h1.1 h1.2) (fun q hq => h q (List.mem_cons_of_mem _ hq))
    rw [List.length_cons, Int.pow_succ, Int.mul_assoc]
    exact this
theorem room_small {nk : κ → Nat → κ} {l : List (Ask κ × Int)} (hl : l.length ≤ 89) (h : ∀ p ∈ l, p.1.fits p.2 ∧ p.1.small) : (256 : Int) ^ ((wrs nk l cs0).n + 4) < 2 ^ 9000 := by
  have r := rm_wrs (nk := nk) l ok0 (F := 1) (by decide) (by show (4294967296 : Int) * 256 ^ 0 ≤ 4294967296 * 1; decide) h
  have o := wrs_ok (nk := nk) l ok0
  have r2 : 4294967296 * 256 ^ (wrs nk l cs0).n ≤ (wrs nk l cs0).br * ((201 ^ 12) ^ l.length * 1) := r
  rw [Int.mul_one] at r2
  have h1 : ((201 : Int) ^ 12) ^ l.length ≤ (201 ^ 12) ^ 89 := pow_le_pow_int (by decide) hl
  have h2 := Int.mul_le_mul_of_nonneg_left h1 (Int.le_trans (by decide) o.b0 : 0 ≤ (wrs nk l cs0).br)
  have h3 := Int.mul_le_mul_of_nonneg_right o.b1 (show (0 : Int) ≤ (201 ^ 12) ^ 89 from Int.pow_nonneg (Int.pow_nonneg (by decide)))
  have h4 : (4294967296 : Int) * (201 ^ 12) ^ 89 < 2 ^ 9000 := by decide +kernel
  have e : (256 : Int) ^ ((wrs nk l cs0).n + 4) = 4294967296 * 256 ^ (wrs nk l cs0).n := by
    rw [Int.pow_add, Int.mul_comm]; rfl
  rw [e]
  exact Int.lt_of_le_of_lt (Int.le_trans r2 (Int.le_trans h2 h3)) h4

/-! ### a writer's letters -/
/-- a number as so many letters, the greatest first -/
def lets (x : Int) (k : Nat) : List Int := ((List.range k).map fun i => x / 256 ^ i % 256).reverse
theorem lets_length (x : Int) (k : Nat) : (lets x k).length = k := by simp [lets]
theorem lets_good (x : Int) (k : Nat) : Good (lets x k) := fun y h => by
  unfold lets at h
  rw [List.mem_reverse] at h
  obtain ⟨i, _, rfl⟩ := List.mem_map.mp h
  omega
theorem lets_get {x : Int} {k j : Nat} (h : j < k) : (lets x k).getD j 0 = x / 256 ^ (k - 1 - j) % 256 := by
  rw [List.getD_eq_getElem?_getD]
  unfold lets
  rw [List.getElem?_reverse (by simp; omega)]
  simp only [List.length_map, List.length_range, List.getElem?_map]
  rw [List.getElem?_range (by omega)]
  rfl
theorem cd_lets {x : Int} {k : Nat} (h0 : 0 ≤ x) (hx : x < 256 ^ k) : ∀ m, m ≤ k → cd (lets x k) m = x / 256 ^ (k - m)
  | 0, _ => by
    show (0 : Int) = x / 256 ^ (k - 0)
    rw [Nat.sub_zero, Int.ediv_eq_zero_of_lt h0 hx]
  | m + 1, hm => by
    show cd (lets x k) m * 256 + (lets x k).getD m 0 = _
    rw [cd_lets h0 hx m (by omega), lets_get (by omega)]
    rw [show k - m = (k - 1 - m) + 1 by omega, show k - (m + 1) = k - 1 - m by omega, Int.pow_succ, ← Int.ediv_ediv_of_nonneg (Int.le_of_lt (pow256_pos _))]
    generalize x / 256 ^ (k - 1 - m) = y
    omega
theorem cd_more {L : List Int} : ∀ d, cd L (L.length + d) = cd L L.length * 256 ^ d
  | 0 => by rw [Int.pow_zero, Int.mul_one]; rfl
  | d + 1 => by
    show cd L (L.length + d) * 256 + L.getD (L.length + d) 0 = _
    rw [cd_more d, Int.pow_succ, ← Int.mul_assoc, List.getD_eq_getElem?_getD, List.getElem?_eq_none (by omega)]
    show _ + 0 = _
    rw [Int.add_zero]
/-- the letters of any number of the part that is told by so many letters tell that part -/
theorem in_lets {s : Cs κ} (o : Ok s) {k : Nat} (hk : k ≤ s.n + 4) {x : Int} (h1 : s.low ≤ x * 256 ^ (s.n + 4 - k)) (h2 : x * 256 ^ (s.n + 4 - k) < s.low + s.br) : In (lets x k) s := by
  have u := pow256_pos (s.n + 4 - k)
  have h0 : 0 ≤ x := by
    have := o.l0
    refine Int.not_lt.mp fun q => ?_
    have := Int.mul_neg_of_neg_of_pos q u
    omega
  have e : (4294967296 : Int) * 256 ^ s.n = 256 ^ k * 256 ^ (s.n + 4 - k) := by
    rw [← Int.pow_add, show k + (s.n + 4 - k) = s.n + 4 by omega, Int.pow_add, Int.mul_comm]; rfl
  have hx : x < 256 ^ k := by
    have := o.lr
    rw [e] at this
    exact Int.lt_of_mul_lt_mul_right (Int.lt_of_lt_of_le h2 this) (Int.le_of_lt u)
  have c : cd (lets x k) (s.n + 4) = x * 256 ^ (s.n + 4 - k) := by
    have q := cd_more (L := lets x k) (s.n + 4 - k)
    rw [lets_length, show k + (s.n + 4 - k) = s.n + 4 by omega, cd_lets h0 hx k (Nat.le_refl _), Nat.sub_self, Int.pow_zero, Int.ediv_one] at q
    exact q
  unfold In
  rw [c]
  exact ⟨h1, h2⟩
/-- rounding up to a unit -/
theorem up_ge {a u : Int} (hu : 0 < u) : a ≤ (a + u - 1) / u * u := by
  have h := Int.lt_ediv_add_one_mul_self (a + u - 1) hu
  rw [Int.add_mul, Int.one_mul] at h
  omega
theorem up_one (a : Int) : (a + 1 - 1) / 1 * 1 = a := by omega

/-! ### the names -/
def keys (l : List (κ × Int)) : List κ := l.map (·.1)
theorem put_keys_mem {l : List (κ × Int)} {k x : κ} {c : Int} (h : x ∈ keys (put l k c)) : x ∈ keys l ∨ x = k := by
  obtain ⟨p, hp, rfl⟩ := List.mem_map.mp h
  rcases put_mem hp with h | rfl
  · exact .inl (List.mem_map.mpr ⟨p, h, rfl⟩)
  · exact .inr rfl
theorem put_nodup {l : List (κ × Int)} {k : κ} {c : Int} (h : (keys l).Nodup) : (keys (put l k c)).Nodup := by
  unfold put keys
  split
  · rw [List.map_map]
    have e : ((fun p : κ × Int => p.1) ∘ fun p => if p.1 = k then (p.1, c) else p) = fun p => p.1 := by
      funext p
      show (if p.1 = k then (p.1, c) else p).1 = p.1
      split <;> rfl
    rw [e]; exact h
  · rename_i hn
    rw [List.map_append]
    refine List.nodup_append.mpr ⟨h, by simp, ?_⟩
    intro a ha b hb e
    obtain ⟨p, hp, rfl⟩ := List.mem_map.mp ha
    have hb' : b = k := by simpa using hb
    subst hb'
    exact hn (List.any_eq_true.mpr ⟨p, hp, decide_eq_true e⟩)
structure Kn (NL : List κ) (l : List (κ × Int)) : Prop where
  nd : (keys l).Nodup
  sub : ∀ x ∈ keys l, x ∈ NL
theorem kn0 {NL : List κ} : Kn NL ([] : List (κ × Int)) := ⟨List.nodup_nil, fun x h => by cases h⟩
theorem kn_put {NL : List κ} {l : List (κ × Int)} (h : Kn NL l) {k : κ} (hk : k ∈ NL) (c : Int) : Kn NL (put l k c) :=
  ⟨put_nodup h.nd, fun x hx => by rcases put_keys_mem hx with q | rfl; exact h.sub x q; exact hk⟩
theorem kn_bit {NL : List κ} {s : Cs κ} (h : Kn NL s.lrn) {k : κ} (hk : k ∈ NL) (v : Int) : Kn NL (bitS s k v).lrn := kn_put h hk _
theorem kn_ev {NL : List κ} {s : Cs κ} (h : Kn NL s.lrn) (v : Int) : Kn NL (evS s v).lrn := by rw [ev_lrn]; exact h
theorem kn_ones {NL : List κ} {f : Nat → κ} {s : Cs κ} (h : Kn NL s.lrn) : ∀ k, (∀ i, i < k → f i ∈ NL) → Kn NL (onesS f k s).lrn
  | 0, _ => h
  | k + 1, hf => kn_bit (kn_ones h k fun i hi => hf i (by omega)) (hf k (by omega)) _
theorem kn_fold {NL : List κ} : ∀ (vs : List Int) {s : Cs κ}, Kn NL s.lrn → Kn NL (vs.foldl evS s).lrn
  | [], _, h => h
  | v :: r, _, h => kn_fold r (kn_ev h v)
theorem kn_wrNum {NL : List κ} {f : Nat → κ} {n m : Nat} (hn : n ≤ m) {s : Cs κ} (h : Kn NL s.lrn) (hf : ∀ i, i < (m + 1).log2 → f i ∈ NL) : Kn NL (wrNum f n m s).lrn := by
  have hle : (n + 1).log2 ≤ (m + 1).log2 := log2_mono (by omega) (by omega)
  unfold wrNum
  refine kn_fold _ ?_
  split
  · rename_i hlt
    exact kn_bit (kn_ones h _ fun i hi => hf i (by omega)) (hf _ hlt) _
  · exact kn_ones h _ fun i hi => hf i (by omega)
theorem kn_rdK {NL : List κ} {L : List Int} {f : Nat → κ} : ∀ (d k : Nat) {s : Cs κ}, Kn NL s.lrn → (∀ i, i < k + d → f i ∈ NL) → Kn NL (rdK L f d k s).2.lrn
  | 0, _, _, h, _ => h
  | d + 1, k, s, h, hf => by
    unfold rdK
    split
    · exact kn_rdK d (k + 1) (kn_bit h (hf k (by omega)) _) fun i hi => hf i (by omega)
    · exact kn_bit h (hf k (by omega)) _
theorem kn_eS {NL : List κ} {L : List Int} {s : Cs κ} (h : Kn NL s.lrn) : ∀ j, Kn NL (eS L j s).2.lrn
  | 0 => h
  | j + 1 => kn_ev (kn_eS h j) _
theorem kn_rdNum {NL : List κ} {L : List Int} {f : Nat → κ} {m : Nat} {s : Cs κ} (h : Kn NL s.lrn) (hf : ∀ i, i < (m + 1).log2 → f i ∈ NL) : Kn NL (rdNum L f m s).2.lrn :=
  kn_eS (kn_rdK _ _ h fun i hi => hf i (by omega)) _
def Ask.known (nk : κ → Nat → κ) (NL : List κ) : Ask κ → Prop
  | .ev => True
  | .bit x => x ∈ NL
  | .num x m => m ≤ 8190 ∧ ∀ i, i < 12 → nk x i ∈ NL
theorem log12 {m : Nat} (h : m ≤ 8190) : (m + 1).log2 ≤ 12 := by
  have h1 := Nat.log2_self_le (n := m + 1) (by omega)
  have : 2 ^ (m + 1).log2 < 2 ^ 13 := by omega
  have := (Nat.pow_lt_pow_iff_right (a := 2) (by decide)).mp this
  omega
theorem kn_wr {nk : κ → Nat → κ} {NL : List κ} {s : Cs κ} (h : Kn NL s.lrn) : ∀ {a : Ask κ} {v : Int}, a.fits v → a.known nk NL → Kn NL (wr nk s a v).lrn
  | .ev, v, _, _ => kn_ev h v
  | .bit _, v, _, k => kn_bit h k v
  | .num x m, v, hf, k => by
    have h' : 0 ≤ v ∧ v ≤ (m : Int) := hf
    exact kn_wrNum (by omega) h fun i hi => k.2 i (Nat.lt_of_lt_of_le hi (log12 k.1))
theorem kn_rd {nk : κ → Nat → κ} {NL : List κ} {L : List Int} {s : Cs κ} (h : Kn NL s.lrn) : ∀ {a : Ask κ}, a.known nk NL → Kn NL (rd nk L s a).2.lrn
  | .ev, _ => kn_ev h _
  | .bit _, k => kn_bit h k _
  | .num x m, k => kn_rdNum h fun i hi => k.2 i (Nat.lt_of_lt_of_le hi (log12 k.1))
theorem kn_wrs {nk : κ → Nat → κ} {NL : List κ} : ∀ (l : List (Ask κ × Int)) {s : Cs κ}, Kn NL s.lrn → (∀ p ∈ l, p.1.fits p.2 ∧ p.1.known nk NL) → Kn NL (wrs nk l s).lrn
  | [], _, h, _ => h
  | p :: r, _, h, hf => kn_wrs r (kn_wr h (hf p (List.mem_cons_self ..)).1 (hf p (List.mem_cons_self ..)).2) fun q hq => hf q (List.mem_cons_of_mem _ hq)
theorem sub_length : ∀ {l NL : List κ}, l.Nodup → (∀ x ∈ l, x ∈ NL) → l.length ≤ NL.length
  | [], _, _, _ => Nat.zero_le _
  | a :: l, NL, hn, hs => by
    have ha : a ∈ NL := hs a (List.mem_cons_self ..)
    have hn' := List.nodup_cons.mp hn
    have : l.length ≤ (NL.erase a).length := sub_length hn'.2 fun x hx => by
      have hne : x ≠ a := fun e => hn'.1 (e ▸ hx)
      exact (List.mem_erase_of_ne hne).mpr (hs x (List.mem_cons_of_mem _ hx))
    rw [List.length_erase_of_mem ha] at this
    have : 0 < NL.length := List.length_pos_of_mem ha
    simp only [List.length_cons]
    omega
theorem kn_length {NL : List κ} {l : List (κ × Int)} (h : Kn NL l) : l.length ≤ NL.length := by
  have := sub_length h.nd h.sub
  unfold keys at this
  rwa [List.length_map] at this
end
end K11
namespace K11
open PySem L2
/-! ### the text by places -/
def top (i : Nat) : Stmt := PySem.Challenge.pw_sameshown_k11_whole_signs_read_back.main.body.getD i (.Pass ⟨0, 0, 0, 0⟩)
abbrev sWhole : Stmt := top 4
abbrev sSigns : Stmt := top 13
abbrev sLower : Stmt := top 14
abbrev sLetIn : Stmt := top 15
abbrev sCInit : Stmt := inClass (top 16) 0
abbrev sChances : Stmt := inClass (top 16) 1
abbrev sChance : Stmt := inClass (top 16) 2
abbrev sNarrow : Stmt := inClass (top 16) 3
abbrev sCame0 : Stmt := inClass (top 16) 4
abbrev sLearn : Stmt := inClass (top 16) 5
abbrev sNeed : Stmt := top 17
abbrev sWBit : Stmt := inClass (top 18) 0
abbrev sWEven : Stmt := inClass (top 18) 1
abbrev sWNum : Stmt := inClass (top 18) 2
abbrev sWLet : Stmt := inClass (top 18) 3
abbrev sRInit : Stmt := inClass (top 19) 0
abbrev sSignAt : Stmt := inClass (top 19) 1
abbrev sCameR : Stmt := inClass (top 19) 2
abbrev sReadBy : Stmt := inClass (top 19) 3
abbrev sRBit : Stmt := inClass (top 19) 4
abbrev sREven : Stmt := inClass (top 19) 5
abbrev sRNum : Stmt := inClass (top 19) 6
abbrev lBegin : Stmt := top 21
abbrev lMore : Stmt := top 22
abbrev lNext : Stmt := top 23
abbrev lPick : Stmt := top 24
abbrev lCoder : Stmt := top 25
abbrev lSign : Stmt := top 26
abbrev lPower : Stmt := top 27
abbrev lNumber : Stmt := top 28
abbrev lAsks : Stmt := top 30
abbrev lWritten : Stmt := top 31
abbrev lRead : Stmt := top 32
abbrev lBent : Stmt := top 33
abbrev lKept : Stmt := top 34
abbrev lLaw : Stmt := top 35

/-! ### rules that the layer lacks -/
section
variable {X : Cx}
theorem in_mul : InOp X .Mult (rI CMul fun i j => .int (i * j)) := fun pins s σ H x y u v Q I rx ry h => iop_mul pins s σ H x y u v Q I rx ry h
theorem in_fdiv : InOp X .FloorDiv (rI CDiv fun i j => .int (i / j)) := fun pins s σ H x y u v Q I rx ry h => iop_fdiv pins s σ H x y u v Q I rx ry h
variable {CX : CXT} {k : Nat} {C f : Addr} {mc : Value} {sp : Sp} {E : XK} {o e : Expr} {es : List Expr} {m : Str} {pos apos : Pos} {ta : TE} {t : TA} {pl : Sem Bool} {fd : FuncData} {ps : List Str}
/-- a def read off its class: C.m is f -/
structure CFn (K : PySem.W.Frag) (C : Addr) (mc : Value) (m : Str) (f : Addr) : Prop where
  at_ : PySem.W.findCls K (.ref C) mc m = some (.val (.ref f))
  kp : PySem.W.keepIn K (.ref f) = true
/-- C.m(..), m a def of the class C -/
theorem pe_clsfn (he : PE X o ta) (r : ClX.CRead X.K C mc) (c : CFn X.K C mc m f) (F : FnOk X.prog X.w X.K X.mg X.base CX k f fd ps sp) (hr : Room k X.A) (hb : Binds X.K fd ps []) (hx : Passes CX X E) (ha : PA X (e :: es) t)
    (hst : starEach (e :: es) X.env = (false, eval e X.env) :: starEach es X.env := by rfl) (hpl : (backTo pos (starEach es X.env)).any (·.1) = false := by rfl)
    (ht : eval (.Call (.Attribute o m apos) (e :: es) [] pos) X.env = (do
      let ov ← eval o X.env
      standAt apos.atName
      let (f, first) ← holding [ov] (getMethod ov m pl)
      callWith pos f first (backTo pos (starEach (e :: es) X.env)) (backToKw pos (keywordEach [] X.env))) := by rfl) :
    PE X (.Call (.Attribute o m apos) (e :: es) [] pos) (ClX.tCMeth C (fun vs => sp vs.tail) E ta t) := by
  refine ⟨fun pins s σ H Q I h => ?_⟩
  refine PySem.W.methodCall_KW (pl := pl) (thn (he.run pins s σ H _ I h) fun u s1 ⟨x, H1, I1, rx, ex, q⟩ => ?_) ht
  subst ex
  obtain rfl : u = Value.ref C := rx
  refine PySem.W.method_cls I1.kIn r.ga (PySem.W.cls_value I1.kIn r.rd c.at_ rfl ?_)
  refine PySem.W.callWith_K (h₀ := X.base) I1.ok.mod.kin c.kp (thn (ha.run pos pins _ σ H1 _ (I1.tok _) q) fun us s2 ⟨vs, H2, I2, rv, q2⟩ => ⟨I2.kIn, ?_⟩) hst hpl
  exact run_fn (dvs := []) F hr hb .nil hx I2 rv (by rw [List.append_nil]; exact q2)
end

/-! ### the fields of a coder -/
def fl (tail : List (Str × V)) (low br room sent : Int) (d : Addr) : List (Str × V) :=
  [(("low" : Str), V.int low), (("breadth" : Str), V.int br), (("room" : Str), V.int room), (("sent" : Str), V.int sent), (("learned_ones" : Str), V.ref d)] ++ tail
def rtl (g : Addr) (code : Int) : List (Str × V) := [(("signs" : Str), V.ref g), (("code" : Str), V.int code)]
theorem n1 : ¬ (("low" : Str) = "breadth") := by decide +kernel
theorem n2 : ¬ (("low" : Str) = "room") := by decide +kernel
theorem n3 : ¬ (("low" : Str) = "sent") := by decide +kernel
theorem n4 : ¬ (("low" : Str) = "learned_ones") := by decide +kernel
theorem n5 : ¬ (("breadth" : Str) = "room") := by decide +kernel
theorem n6 : ¬ (("breadth" : Str) = "sent") := by decide +kernel
theorem n7 : ¬ (("breadth" : Str) = "learned_ones") := by decide +kernel
theorem n8 : ¬ (("room" : Str) = "sent") := by decide +kernel
theorem n9 : ¬ (("room" : Str) = "learned_ones") := by decide +kernel
theorem n10 : ¬ (("sent" : Str) = "learned_ones") := by decide +kernel
theorem n11 : ¬ (("low" : Str) = "signs") := by decide +kernel
theorem n12 : ¬ (("breadth" : Str) = "signs") := by decide +kernel
theorem n13 : ¬ (("room" : Str) = "signs") := by decide +kernel
theorem n14 : ¬ (("sent" : Str) = "signs") := by decide +kernel
theorem n15 : ¬ (("learned_ones" : Str) = "signs") := by decide +kernel
theorem n16 : ¬ (("low" : Str) = "code") := by decide +kernel
theorem n17 : ¬ (("breadth" : Str) = "code") := by decide +kernel
theorem n18 : ¬ (("room" : Str) = "code") := by decide +kernel
theorem n19 : ¬ (("sent" : Str) = "code") := by decide +kernel
theorem n20 : ¬ (("learned_ones" : Str) = "code") := by decide +kernel
theorem n21 : ¬ (("signs" : Str) = "code") := by decide +kernel
section
variable {T : List (Str × V)} {low br room sent : Int} {d : Addr}
theorem lkc {f g : Str} {v : V} {r : List (Str × V)} (h : ¬ g = f) : List.lookup f ((g, v) :: r) = List.lookup f r := by
  have hb : (f == g) = false := beq_eq_false_iff_ne.mpr fun e => h e.symm
  simp only [List.lookup, hb]
theorem lkh {f : Str} {v : V} {r : List (Str × V)} : List.lookup f ((f, v) :: r) = some v := by
  simp only [List.lookup, beq_self_eq_true]
theorem ptc {f g : Str} {v x : V} {r : List (Str × V)} (h : ¬ g = f) : putF f v ((g, x) :: r) = (g, x) :: putF f v r := by
  show (if g = f then _ else _) = _
  rw [if_neg h]
theorem pth {f : Str} {v x : V} {r : List (Str × V)} : putF f v ((f, x) :: r) = (f, v) :: r := by
  show (if f = f then _ else _) = _
  rw [if_pos rfl]
theorem fl_low : (fl T low br room sent d).lookup ("low" : Str) = some (.int low) := lkh
theorem fl_br : (fl T low br room sent d).lookup ("breadth" : Str) = some (.int br) := (lkc n1).trans lkh
theorem fl_room : (fl T low br room sent d).lookup ("room" : Str) = some (.int room) := (lkc n2).trans ((lkc n5).trans lkh)
theorem fl_sent : (fl T low br room sent d).lookup ("sent" : Str) = some (.int sent) := (lkc n3).trans ((lkc n6).trans ((lkc n8).trans lkh))
theorem fl_lrn : (fl T low br room sent d).lookup ("learned_ones" : Str) = some (.ref d) := (lkc n4).trans ((lkc n7).trans ((lkc n9).trans ((lkc n10).trans lkh)))
theorem fl_signs {g : Addr} {c : Int} : (fl (rtl g c) low br room sent d).lookup ("signs" : Str) = some (.ref g) := (lkc n11).trans ((lkc n12).trans ((lkc n13).trans ((lkc n14).trans ((lkc n15).trans lkh))))
theorem fl_code {g : Addr} {c : Int} : (fl (rtl g c) low br room sent d).lookup ("code" : Str) = some (.int c) := (lkc n16).trans ((lkc n17).trans ((lkc n18).trans ((lkc n19).trans ((lkc n20).trans ((lkc n21).trans lkh)))))
theorem fl_put_low {x : Int} : putF "low" (.int x) (fl T low br room sent d) = fl T x br room sent d := pth
theorem fl_put_br {x : Int} : putF "breadth" (.int x) (fl T low br room sent d) = fl T low x room sent d := by
  unfold fl; simp only [List.cons_append, List.nil_append]; rw [ptc n1, pth]
theorem fl_put_room {x : Int} : putF "room" (.int x) (fl T low br room sent d) = fl T low br x sent d := by
  unfold fl; simp only [List.cons_append, List.nil_append]; rw [ptc n2, ptc n5, pth]
theorem fl_put_sent {x : Int} : putF "sent" (.int x) (fl T low br room sent d) = fl T low br room x d := by
  unfold fl; simp only [List.cons_append, List.nil_append]; rw [ptc n3, ptc n6, ptc n8, pth]
theorem fl_put_code {g : Addr} {c x : Int} : putF "code" (.int x) (fl (rtl g c) low br room sent d) = fl (rtl g x) low br room sent d := by
  unfold fl rtl; simp only [List.cons_append, List.nil_append]; rw [ptc n16, ptc n17, ptc n18, ptc n19, ptc n20, ptc n21, pth]
theorem fl_new_signs {g : Addr} : putF "signs" (.ref g) (fl [] low br room sent d) = fl [(("signs" : Str), V.ref g)] low br room sent d := by
  unfold fl; simp only [List.cons_append, List.nil_append]; rw [ptc n11, ptc n12, ptc n13, ptc n14, ptc n15]; rfl
theorem fl_new_code {g : Addr} {x : Int} : putF "code" (.int x) (fl [(("signs" : Str), V.ref g)] low br room sent d) = fl (rtl g x) low br room sent d := by
  unfold fl rtl; simp only [List.cons_append, List.nil_append]; rw [ptc n16, ptc n17, ptc n18, ptc n19, ptc n20, ptc n21]; rfl
theorem fl_made : putF "learned_ones" (.ref d) (putF "sent" (.int sent) (putF "room" (.int room) (putF "breadth" (.int br) (putF "low" (.int low) [])))) = fl [] low br room sent d := by
  show putF _ _ (putF _ _ (putF _ _ (putF _ _ [(("low" : Str), V.int low)]))) = _
  rw [ptc n1]
  show putF _ _ (putF _ _ (putF _ _ [(("low" : Str), V.int low), (("breadth" : Str), V.int br)])) = _
  rw [ptc n2, ptc n5]
  show putF _ _ (putF _ _ [(("low" : Str), V.int low), (("breadth" : Str), V.int br), (("room" : Str), V.int room)]) = _
  rw [ptc n3, ptc n6, ptc n8]
  show putF _ _ [(("low" : Str), V.int low), (("breadth" : Str), V.int br), (("room" : Str), V.int room), (("sent" : Str), V.int sent)] = _
  rw [ptc n4, ptc n7, ptc n9, ptc n10]
  rfl
theorem fl_len : (fl T low br room sent d).length = T.length + 5 := by
  unfold fl; rw [List.length_append]; show 5 + _ = _; omega
theorem fl_no {m : Str} (h1 : ¬ ("low" : Str) = m) (h2 : ¬ ("breadth" : Str) = m) (h3 : ¬ ("room" : Str) = m) (h4 : ¬ ("sent" : Str) = m) (h5 : ¬ ("learned_ones" : Str) = m) (h6 : T.lookup m = none) : (fl T low br room sent d).lookup m = none :=
  (lkc h1).trans ((lkc h2).trans ((lkc h3).trans ((lkc h4).trans ((lkc h5).trans h6))))
theorem rtl_no {m : Str} {g : Addr} {c : Int} (h6 : ¬ ("signs" : Str) = m) (h7 : ¬ ("code" : Str) = m) : (rtl g c).lookup m = none := (lkc h6).trans ((lkc h7).trans rfl)
end

/-! ### what is learned, as a dict -/
def kvs (l : List (Str × Int)) : List (Key × V) := l.map fun q => ((Sum.inr q.1 : Key), V.int q.2)
theorem kvs_len (l : List (Str × Int)) : (kvs l).length = l.length := List.length_map ..
theorem kvs_val (k : Str) : ∀ l : List (Str × Int), valV (kvs l) (Sum.inr k : Key) = (l.find? fun p => decide (p.1 = k)).map fun p => V.int p.2
  | [] => rfl
  | p :: r => by
    by_cases e : p.1 = k
    · rw [List.find?_cons, decide_eq_true e]
      exact valV_pos (p := ((Sum.inr p.1 : Key), V.int p.2)) (by rw [← e])
    · rw [List.find?_cons, decide_eq_false e]
      exact (valV_neg (p := ((Sum.inr p.1 : Key), V.int p.2)) fun z => e (Sum.inr.inj z)).trans (kvs_val k r)
theorem kvs_get (l : List (Str × Int)) (k : Str) : (valV (kvs l) (Sum.inr k : Key)).getD (.int 1024) = V.int (look l k) := by
  rw [kvs_val]
  unfold look
  cases l.find? fun p => decide (p.1 = k) <;> rfl
theorem kvs_any (k : Str) (l : List (Str × Int)) : ((kvs l).any fun kv => decide (kv.1 = (Sum.inr k : Key))) = l.any fun p => decide (p.1 = k) := by
  unfold kvs
  rw [List.any_map]
  congr 1
  funext p
  show decide ((Sum.inr p.1 : Key) = Sum.inr k) = _
  by_cases e : p.1 = k
  · rw [decide_eq_true e, decide_eq_true (by rw [e])]
  · rw [decide_eq_false e, decide_eq_false fun z => e (Sum.inr.inj z)]
theorem kvs_put (l : List (Str × Int)) (k : Str) (c : Int) : putK (kvs l) (Sum.inr k : Key) (.int c) = kvs (put l k c) := by
  unfold putK put
  rw [kvs_any]
  split
  · unfold kvs
    rw [List.map_map, List.map_map]
    refine List.map_congr_left fun p _ => ?_
    show (if (Sum.inr p.1 : Key) = Sum.inr k then _ else _) = _
    by_cases e : p.1 = k
    · rw [if_pos (by rw [e])]
      show _ = ((Sum.inr (if p.1 = k then (p.1, c) else p).1 : Key), V.int (if p.1 = k then (p.1, c) else p).2)
      rw [if_pos e]
    · rw [if_neg fun z => e (Sum.inr.inj z)]
      show _ = ((Sum.inr (if p.1 = k then (p.1, c) else p).1 : Key), V.int (if p.1 = k then (p.1, c) else p).2)
      rw [if_neg e]
  · unfold kvs
    rw [List.map_append]
    rfl
def names (l : List (Str × Int)) : List Str := l.map (·.1)

/-! ### an object of the coder's in the heap -/
abbrev St0 := Cs Str
def rm (n : Nat) : Int := 4294967296 * 256 ^ n
/-- a coder of the class C stands at p, its dict at d; T: its further fields -/
structure CodAt (C : Addr) (T : List (Str × V)) (H : Hp) (p d : Addr) (s : St0) : Prop where
  ob : ∃ dx, H p = some (.ins C dx (fl T s.low s.br (rm s.n) (s.n : Int) d))
  dc : H d = some (.dK (kvs s.lrn))
/-- all else that stood is as it was -/
def Kp (p d : Addr) (H H' : Hp) : Prop := ∀ b o, H b = some o → b ≠ p → b ≠ d → H' b = some o
theorem Kp.refl (p d : Addr) (H : Hp) : Kp p d H H := fun _ _ h _ _ => h
theorem Kp.trans {p d : Addr} {H H1 H2 : Hp} (a : Kp p d H H1) (b : Kp p d H1 H2) : Kp p d H H2 := fun c o h h1 h2 => b c o (a c o h h1 h2) h1 h2
theorem Kp.same {p d : Addr} {H H1 : Hp} (a : Same H H1) : Kp p d H H1 := fun c o h _ _ => a c o h
theorem CodAt.ne {C : Addr} {T : List (Str × V)} {H : Hp} {p d : Addr} {s : St0} (c : CodAt C T H p d s) : p ≠ d := by
  obtain ⟨dx, h⟩ := c.ob
  exact ne_of h c.dc (by intro z; cases z)
theorem CodAt.same {C : Addr} {T : List (Str × V)} {H H' : Hp} {p d : Addr} {s : St0} (c : CodAt C T H p d s) (e : Same H H') : CodAt C T H' p d s :=
  ⟨⟨c.ob.choose, e _ _ c.ob.choose_spec⟩, e _ _ c.dc⟩
theorem sqT_keep {K : PySem.W.Frag} {H H' : Hp} {a : Addr} {xs : List V} (h : SqT K H a xs) (k : ∀ ys : List V, Rd H a (.tup ys) → Rd H' a (.tup ys)) : SqT K H' a xs := by
  rcases h with h | h
  · exact .inl (k _ h)
  · exact .inr h
theorem Kp.tup {K : PySem.W.Frag} {p d : Addr} {H H' : Hp} {a : Addr} {xs : List V} {C dx : Addr} {fs : List (Str × V)} {ks : List (Key × V)} (e : Kp p d H H') (hp : H p = some (.ins C dx fs)) (hd : H d = some (.dK ks)) (h : SqT K H a xs) : SqT K H' a xs :=
  sqT_keep h fun ys r => by
    rcases r with r | ⟨o, r⟩
    · exact .inl (e _ _ r (ne_of r hp (by intro z; cases z)) (ne_of r hd (by intro z; cases z)))
    · exact .inr ⟨o, e _ _ r (ne_of r hp (by intro z; cases z)) (ne_of r hd (by intro z; cases z))⟩
theorem same_tup {K : PySem.W.Frag} {H H' : Hp} {a : Addr} {xs : List V} (e : Same H H') (h : SqT K H a xs) : SqT K H' a xs := by
  rcases h with (h | ⟨o, h⟩) | h
  · exact .inl (.inl (e _ _ h))
  · exact .inl (.inr ⟨o, e _ _ h⟩)
  · exact .inr h
theorem same_new {H : Hp} {p : Addr} {o : HO} (h : H p = none) : Same H (upd H p o) := fun b u e => by rw [upd_ne (ne_of_none e h)]; exact e
/-- a reader of the letters L -/
def RdAt (K : PySem.W.Frag) (C : Addr) (L : List Int) (H : Hp) (p d : Addr) (s : St0) : Prop :=
  ∃ g, CodAt C (rtl g (cd L (s.n + 4))) H p d s ∧ SqT K H g (L.map V.int)
theorem RdAt.same {K : PySem.W.Frag} {C : Addr} {L : List Int} {H H' : Hp} {p d : Addr} {s : St0} (c : RdAt K C L H p d s) (e : Same H H') : RdAt K C L H' p d s := by
  obtain ⟨g, c, t⟩ := c
  exact ⟨g, c.same e, same_tup e t⟩

/-! ### what the top leaves: constants, built-ins, classes -/
structure Txt (K : PySem.W.Frag) (mg : Str → Option Value) : Prop where
  cEven : ∃ t, mg "EVEN" = some (.int 1024 t)
  cWhole : ∃ t, mg "WHOLE" = some (.int 2048 t)
  cSlow : ∃ t, mg "SLOW" = some (.int 32 t)
  cLeast : ∃ t, mg "LEAST_BREADTH" = some (.int 16777216 t)
  cFirst : ∃ t, mg "FIRST_BREADTH" = some (.int 4294967296 t)
  cAhead : ∃ t, mg "AHEAD" = some (.int 4 t)
  cMost : ∃ t, mg "MOST_NUMBER" = some (.int 8190 t)
  zLen : mg "len" = none
  zRange : mg "range" = none
  zTuple : mg "tuple" = none
  zList : mg "list" = none
  zInt : mg "int" = none
  zBool : mg "bool" = none
  zIsi : mg "isinstance" = none
  zMin : mg "min" = none
  zMax : mg "max" = none
  zAbs : mg "abs" = none
  zStr : mg "str" = none
  zSorted : mg "sorted" = none
  zZip : mg "zip" = none
  zEnum : mg "enumerate" = none
/-- a class of coders -/
structure CCls (K : PySem.W.Frag) (C : Addr) : Prop where
  cl : Cls K C
  nLow : NoAttr K C "low"
  nBr : NoAttr K C "breadth"
  nRoom : NoAttr K C "room"
  nSent : NoAttr K C "sent"
  nLrn : NoAttr K C "learned_ones"
  nSigns : NoAttr K C "signs"
  nCode : NoAttr K C "code"
/-- a def of the module, called by its name -/
structure GDef (K : PySem.W.Frag) (mg : Str → Option Value) (x : Str) (st : Stmt) (ps : List Str) (f : Addr) (fd : FuncData) : Prop where
  F : Fun K x x st f fd
  b : Binds K fd ps []
  m : mg x = some (.ref f)
/-- a method of a class -/
structure MDef (K : PySem.W.Frag) (x qual : Str) (st : Stmt) (ps : List Str) (f : Addr) (fd : FuncData) : Prop where
  F : Fun K x qual st f fd
  b : Binds K fd ps []
/-- what a caller of a def needs -/
structure Cal (P : Program) (w : World) (K : PySem.W.Frag) (mg : Str → Option Value) (base : Heap) (k : Nat) (x : Str) (sp : Sp) : Prop where
  ex : ∃ (f : Addr) (fd : FuncData) (ps : List Str), FnOk P w K mg base CX0 k f fd ps sp ∧ mg x = some (.ref f) ∧ PySem.W.keepIn K (.ref f) = true ∧ Binds K fd ps []
/-- what a caller of a method needs -/
structure Met (P : Program) (w : World) (K : PySem.W.Frag) (mg : Str → Option Value) (base : Heap) (k : Nat) (C : Addr) (m : Str) (sp : Sp) : Prop where
  ex : ∃ (f : Addr) (fd : FuncData) (ps : List Str), Cls K C ∧ Meth K C m f ∧ FnOk P w K mg base CX0 k f fd ps sp ∧ Binds K fd ps []
section
variable {P : Program} {w : World} {K : PySem.W.Frag} {mg : Str → Option Value} {base : Heap} {k : Nat} {x qual : Str} {st : Stmt} {ps : List Str} {f : Addr} {fd : FuncData} {sp : Sp} {C : Addr}
theorem GDef.cal (g : GDef K mg x st ps f fd) (F : FnOk P w K mg base CX0 k f fd ps sp) : Cal P w K mg base k x sp := ⟨f, fd, ps, F, g.m, g.F.kp, g.b⟩
theorem MDef.met (g : MDef K x qual st ps f fd) (c : Cls K C) (m : Meth K C x f) (F : FnOk P w K mg base CX0 k f fd ps sp) : Met P w K mg base k C x sp := ⟨f, fd, ps, c, m, F, g.b⟩
end
section
variable {X : Cx} {k j : Nat} {C : Addr} {x m : Str} {sp : Sp} {p pos apos : Pos} {e o : Expr} {es : List Expr} {ta : TE} {t : TA}
theorem pe_g (c : Cal X.prog X.w X.K X.mg X.base k x sp) (hr : Room j X.A) (hk : k ≤ j) (ha : PA X (e :: es) t) (hg : Gl X x := by rfl)
    (hdb : (x == ("__debug__" : Str)) = false := by decide) (he : starEach (e :: es) X.env = (false, eval e X.env) :: starEach es X.env := by rfl) (hpl : (backTo pos (starEach es X.env)).any (·.1) = false := by rfl) :
    PE X (.Call (.Name x p) (e :: es) [] pos) (tCall sp [] E0 t) := by
  obtain ⟨f, fd, ps, F, hm, kp, b⟩ := c.ex
  exact pe_call F (hr.mono hk) hg hm kp b .nil pass0 ha hdb he hpl
theorem pe_m {pl : Sem Bool} (c : Met X.prog X.w X.K X.mg X.base k C m sp) (hr : Room j X.A) (hk : k ≤ j) (he : PE X o ta) (ha : PA X (e :: es) t)
    (hst : starEach (e :: es) X.env = (false, eval e X.env) :: starEach es X.env := by rfl) (hpl : (backTo pos (starEach es X.env)).any (·.1) = false := by rfl)
    (ht : eval (.Call (.Attribute o m apos) (e :: es) [] pos) X.env = (do
      let ov ← eval o X.env
      standAt apos.atName
      let (f, first) ← holding [ov] (getMethod ov m pl)
      callWith pos f first (backTo pos (starEach (e :: es) X.env)) (backToKw pos (keywordEach [] X.env))) := by rfl) :
    PE X (.Call (.Attribute o m apos) (e :: es) [] pos) (tMeth C m sp [] E0 ta t) := by
  obtain ⟨f, fd, ps, hc, hm, F, b⟩ := c.ex
  exact pe_meth (pl := pl) he hc hm F (hr.mono hk) b .nil pass0 ha hst hpl ht
theorem pe_m0 {pl : Sem Bool} (c : Met X.prog X.w X.K X.mg X.base k C m sp) (hr : Room j X.A) (hk : k ≤ j) (he : PE X o ta)
    (ht : eval (.Call (.Attribute o m apos) [] [] pos) X.env = (do
      let ov ← eval o X.env
      standAt apos.atName
      let (f, first) ← holding [ov] (getMethod ov m pl)
      callWith pos f first (backTo pos (starEach [] X.env)) (backToKw pos (keywordEach [] X.env))) := by rfl) :
    PE X (.Call (.Attribute o m apos) [] [] pos) (tMeth C m sp [] E0 ta tNil) := by
  obtain ⟨f, fd, ps, hc, hm, F, b⟩ := c.ex
  exact pe_meth0 (pl := pl) he hc hm F (hr.mono hk) b .nil pass0 ht
end
end K11
namespace K11
open PySem L2
section
variable {P : Program} {w : World} {K : PySem.W.Frag} {mg : Str → Option Value} {base : Heap}
/-! ### is_whole, need_sign -/
def spWhole : Sp := fun vs H Q _ => ∃ x a b : Int, vs = [.int x, .int a, .int b] ∧ Q (.bl (decide (a ≤ x) && decide (x ≤ b))) H
theorem scWhole : FnScope ["thing", "least", "most"] ["thing", "least", "most"] (defScope sWhole) := ⟨rfl, rfl, rfl, by decide +kernel, rfl, by decide +kernel, by decide +kernel⟩
theorem ok_whole {f : Addr} {fd : FuncData} (g : GDef K mg "is_whole" sWhole ["thing", "least", "most"] f fd) (T : Txt K mg) : FnOk P w K mg base CX0 1 f fd ["thing", "least", "most"] spWhole := by
  refine g.F.ok scWhole (fun vs H Q E h => ?_) (fun cdv A outer s H vs Q E hr h => ?_)
  · obtain ⟨x, a, b, rfl, _⟩ := h
    rfl
  · obtain ⟨x, a, b, rfl, k⟩ := h
    refine ⟨_, pss_one (ps_ret (pe_and (pe_callB call_isi (by rfl) T.zIsi (by decide +kernel) (pa_cons (pv 0) (pa_cons (pe_bltn (v := .ty "int") (by rfl) T.zInt (by decide +kernel) rfl) pa_nil)))
      (pe_and (pe_not (pe_callB call_isi (by rfl) T.zIsi (by decide +kernel) (pa_cons (pv 0) (pa_cons (pe_bltn (v := .ty "bool") (by rfl) T.zBool (by decide +kernel) rfl) pa_nil))))
      (pe_one (pe_chain op_le op_le (pv 1) (pv 0) (pv 2)))))), ?_⟩
    refine ⟨_, rfl, _, _, _, _, true, rfl, ClsV.ty _, .base (.int _), kit_ty (by decide +kernel), _, rfl, iteT ?_⟩
    refine ⟨_, rfl, _, _, _, _, false, rfl, ClsV.ty _, .base (.int _), kit_ty (by decide +kernel), _, rfl, _, rfl, iteT ?_⟩
    refine ⟨_, rfl, _, rfl, _, _, rfl, rfl, _, rfl, ?_⟩
    cases h1 : decide (a ≤ x) with
    | true =>
      rw [h1] at k
      exact iteT ⟨_, rfl, _, _, rfl, rfl, k⟩
    | false =>
      rw [h1] at k
      exact iteF k
def spNeed : Sp := fun vs H Q _ => ∃ x : Int, vs = [.int x] ∧ (x = 0 ∨ x = 1) ∧ Q .non H
theorem scNeed : FnScope ["value"] ["value"] (defScope sNeed) := ⟨rfl, rfl, rfl, by decide +kernel, rfl, by decide +kernel, by decide +kernel⟩
theorem ok_need {f : Addr} {fd : FuncData} (g : GDef K mg "need_sign" sNeed ["value"] f fd) (cw : Cal P w K mg base 1 "is_whole" spWhole) : FnOk P w K mg base CX0 2 f fd ["value"] spNeed := by
  refine g.F.ok scNeed (fun vs H Q E h => ?_) (fun cdv A outer s H vs Q E hr h => ?_)
  · obtain ⟨x, rfl, _⟩ := h
    rfl
  · obtain ⟨x, rfl, h01, k⟩ := h
    refine ⟨_, pss_one (ps_if (pt_not (pt_val (pe_g cw hr (Nat.le_refl _) (pa_cons (pv 0) (pa_cons pe_int (pa_cons pe_int pa_nil)))))) (pss_one ps_never) pss_nil), ?_⟩
    refine ⟨_, rfl, _, _, _, rfl, _, rfl, ?_⟩
    have e : (decide (0 ≤ x) && decide (x ≤ 1)) = true := by
      rw [decide_eq_true (by omega), decide_eq_true (by omega)]; rfl
    rw [e]
    exact iteF k
/-! ### signs_in, _law_power -/
theorem log2_step {n : Nat} (h : 1 < n) : n.log2 = (n / 2).log2 + 1 := by
  rw [Nat.log2_def n, if_pos (by omega)]
theorem log2_low {n : Nat} (h : n ≤ 1) : n.log2 = 0 := by
  rw [Nat.log2_def n, if_neg (by omega)]
def spSigns : Sp := fun vs H Q _ => ∃ x : Int, vs = [.int x] ∧ Q (.int (x.toNat.log2 : Nat)) H
theorem scSigns : FnScope ["number", "found"] ["number"] (defScope sSigns) := ⟨rfl, rfl, rfl, by decide +kernel, rfl, by decide +kernel, by decide +kernel⟩
theorem ok_signs {f : Addr} {fd : FuncData} (g : GDef K mg "signs_in" sSigns ["number"] f fd) : FnOk P w K mg base CX0 1 f fd ["number"] spSigns := by
  refine g.F.ok scSigns (fun vs H Q E h => ?_) (fun cdv A outer s H vs Q E hr h => ?_)
  · obtain ⟨x, rfl, _⟩ := h
    rfl
  · obtain ⟨x, rfl, k⟩ := h
    refine ⟨_, pss_cons (ps_set (i := 1) scSigns.nd rfl (Or.inl rfl) pe_int) (pss_cons (ps_while PassesOwn.never (pt_cmpR op_gt (pv 0) pe_int (nomark _))
      (pss_cons (ps_set (i := 0) scSigns.nd rfl (Or.inl rfl) (pe_op op_fdiv (pv 0) pe_int)) (pss_one (ps_aug (i := 1) scSigns.nd rfl (Or.inl rfl) pe_int ip_add))))
      (pss_one (ps_ret (pv 1)))), ?_⟩
    refine ⟨fun m σ H' => H' = H ∧ ∃ y c : Int, σ = [some (.int y), some (.int c)] ∧ c + (y.toNat.log2 : Nat) = (x.toNat.log2 : Nat) ∧ m = y.toNat, ⟨_, rfl, x, 0, rfl, by omega, rfl⟩, ?_⟩
    rintro m σ H' ⟨rfl, y, c, rfl, hc, rfl⟩
    refine ⟨_, rfl, _, _, rfl, rfl, _, rfl, ite2 (fun h => ?_) (fun h => ?_)⟩
    · have h1 : (1 : Int) < y := of_decide_eq_true h
      refine ⟨_, fun σ' H2 h2 => h2, ?_⟩
      refine ⟨_, rfl, _, _, rfl, rfl, ⟨by decide, by decide⟩, _, rfl, _, _, rfl, rfl, ?_⟩
      refine ⟨(y / 2).toNat, by omega, rfl, y / 2, c + 1, rfl, ?_, rfl⟩
      have := log2_step (n := y.toNat) (by omega)
      rw [show y.toNat / 2 = (y / 2).toNat by omega] at this
      omega
    · have h1 : ¬ (1 : Int) < y := fun q => h (decide_eq_true q)
      have := log2_low (n := y.toNat) (by omega)
      rw [this] at hc
      refine ⟨_, rfl, ?_⟩
      rw [show c = ((x.toNat.log2 : Nat) : Int) by omega]
      exact k
end
end K11
namespace K11
open PySem L2
theorem same_mut {H H' : Hp} {p : Addr} {o : HO} (e : Same H H') (h : H p = none) : Same H (upd H' p o) := fun b u hb => by
  rw [upd_ne (ne_of_none hb h)]
  exact e b u hb
section
variable {P : Program} {w : World} {K : PySem.W.Frag} {mg : Str → Option Value} {base : Heap}
/-! ### lower_signs, letters_in -/
def spLower : Sp := fun vs H Q _ => ∃ n k : Nat, vs = [.int (n : Int), .int (k : Int)] ∧ k ≤ 1000 ∧ ∀ (p : Addr) (H' : Hp), Same H H' → H p = none → H' p = some (.lst ((lows n k).map V.int)) → Q (.ref p) H'
theorem scLower : FnScope ["number", "many", "found", "at"] ["number", "many"] (defScope sLower) := ⟨rfl, rfl, rfl, by decide +kernel, rfl, by decide +kernel, by decide +kernel⟩
theorem ok_lower {f : Addr} {fd : FuncData} (g : GDef K mg "lower_signs" sLower ["number", "many"] f fd) (T : Txt K mg) : FnOk P w K mg base CX0 1 f fd ["number", "many"] spLower := by
  refine g.F.ok scLower (fun vs H Q E h => ?_) (fun cdv A outer s H vs Q E hr h => ?_)
  · obtain ⟨n, k, rfl, _⟩ := h
    rfl
  · obtain ⟨n, k, rfl, hk, q⟩ := h
    refine ⟨_, pss_cons (ps_set (i := 2) scLower.nd rfl (Or.inl rfl) (pe_lst pa_nil)) (pss_cons (ps_for PassesOwn.never rfl (pi_range1 rfl T.zRange (pa_cons (pv 1) pa_nil)) (pg_name (i := 3) scLower.nd rfl (Or.inl rfl))
      (pss_cons (ps_expr (pe_bm PySem.F.plainAttrs_list PySem.F.slot_list_append PySem.F.type_list_append mt_append (pv 2) (pa_cons (pe_op op_mod (pv 0) pe_int) pa_nil)))
        (pss_one (ps_set (i := 0) scLower.nd rfl (Or.inl rfl) (pe_op op_fdiv (pv 0) pe_int)))))
      (pss_one (ps_ret (pe_revL (pv 2))))), ?_⟩
    refine ⟨Nat.zero_le _, fun l hl => ?_⟩
    refine ⟨_, rfl, (k : Int), rfl, by omega, by omega, for_range (n := k) (fun i σ H' => ∃ v, σ = [some (.int ((n / 2 ^ i : Nat) : Int)), some (.int (k : Int)), some (.ref l), v] ∧ Same H H' ∧ H' l = some (.lst ((List.range i).map fun j => V.int ((n / 2 ^ j % 2 : Nat) : Int))))
      ⟨none, by rw [Nat.pow_zero, Nat.div_one]; rfl, same_new hl, upd_same⟩ ?_ ?_⟩
    · rintro i σ H' hi ⟨v, rfl, s0, hL⟩
      refine ⟨_, rfl, .inl ⟨rfl, _, SqL.of hL⟩, _, rfl, _, _, rfl, rfl, (by show (0 : Int) < 2; decide), l, _, _, rfl, rfl, hL, by rw [List.length_map, List.length_range]; exact small1000 (by omega), ?_⟩
      refine ⟨_, rfl, _, _, rfl, rfl, ⟨by decide, by decide⟩, ?_⟩
      refine ⟨some (V.int (0 + (i : Int))), ?_, same_mut s0 hl, ?_⟩
      · show [some (V.int (((n / 2 ^ i : Nat) : Int) / 2)), some (V.int (k : Int)), some (V.ref l), some (V.int (0 + (i : Int)))] = _
        rw [show ((n / 2 ^ i : Nat) : Int) / 2 = ((n / 2 ^ (i + 1) : Nat) : Int) by rw [Nat.pow_succ, ← Nat.div_div_eq_div_mul]; omega]
      · rw [upd_same, List.range_succ, List.map_append]
        rfl
    · rintro σ H' ⟨v, rfl, s0, hL⟩
      refine ⟨_, rfl, l, _, rfl, SqL.of hL, fun p hp => q p _ (s0.trans (same_new hp)) (s0.free hp) ?_⟩
      rw [upd_same]
      unfold lows
      rw [List.map_reverse, List.map_map]
      rfl
def spLetIn : Sp := fun vs H Q _ => ∃ (x : Int) (k : Nat), vs = [.int x, .int (k : Int)] ∧ k ≤ 10000 ∧ ∀ (p : Addr) (H' : Hp), Same H H' → H p = none → H' p = some (.tup ((lets x k).map V.int)) → Q (.ref p) H'
theorem scLetIn : FnScope ["number", "many", "found", "at"] ["number", "many"] (defScope sLetIn) := ⟨rfl, rfl, rfl, by decide +kernel, rfl, by decide +kernel, by decide +kernel⟩
theorem ok_letIn {f : Addr} {fd : FuncData} (g : GDef K mg "letters_in" sLetIn ["number", "many"] f fd) (T : Txt K mg) : FnOk P w K mg base CX0 1 f fd ["number", "many"] spLetIn := by
  refine g.F.ok scLetIn (fun vs H Q E h => ?_) (fun cdv A outer s H vs Q E hr h => ?_)
  · obtain ⟨n, k, rfl, _⟩ := h
    rfl
  · obtain ⟨n, k, rfl, hk, q⟩ := h
    refine ⟨_, pss_cons (ps_set (i := 2) scLetIn.nd rfl (Or.inl rfl) (pe_lst pa_nil)) (pss_cons (ps_for PassesOwn.never rfl (pi_range1 rfl T.zRange (pa_cons (pv 1) pa_nil)) (pg_name (i := 3) scLetIn.nd rfl (Or.inl rfl))
      (pss_cons (ps_expr (pe_bm PySem.F.plainAttrs_list PySem.F.slot_list_append PySem.F.type_list_append mt_append (pv 2) (pa_cons (pe_op op_mod (pv 0) pe_int) pa_nil)))
        (pss_one (ps_set (i := 0) scLetIn.nd rfl (Or.inl rfl) (pe_op op_fdiv (pv 0) pe_int)))))
      (pss_one (ps_ret (pe_callTy call_tuple_of (by rfl) T.zTuple (by decide +kernel) (pa_cons (pe_revL (pv 2)) pa_nil))))), ?_⟩
    refine ⟨Nat.zero_le _, fun l hl => ?_⟩
    refine ⟨_, rfl, (k : Int), rfl, by omega, by omega, for_range (n := k) (fun i σ H' => ∃ v, σ = [some (.int (n / 256 ^ i)), some (.int (k : Int)), some (.ref l), v] ∧ Same H H' ∧ H' l = some (.lst ((List.range i).map fun j => V.int (n / 256 ^ j % 256))))
      ⟨none, by rw [Int.pow_zero, Int.ediv_one]; rfl, same_new hl, upd_same⟩ ?_ ?_⟩
    · rintro i σ H' hi ⟨v, rfl, s0, hL⟩
      refine ⟨_, rfl, .inl ⟨rfl, _, SqL.of hL⟩, _, rfl, _, _, rfl, rfl, (by show (0 : Int) < 256; decide), l, _, _, rfl, rfl, hL, by rw [List.length_map, List.length_range]; exact Nat.lt_of_lt_of_le (by omega : i < 10001) (by decide), ?_⟩
      refine ⟨_, rfl, _, _, rfl, rfl, ⟨by decide, by decide⟩, ?_⟩
      refine ⟨some (V.int (0 + (i : Int))), ?_, same_mut s0 hl, ?_⟩
      · show [some (V.int (n / 256 ^ i / 256)), some (V.int (k : Int)), some (V.ref l), some (V.int (0 + (i : Int)))] = _
        rw [Int.ediv_ediv_of_nonneg (Int.le_of_lt (pow256_pos _)), ← Int.pow_succ]
      · rw [upd_same, List.range_succ, List.map_append]
        rfl
    · rintro σ H' ⟨v, rfl, s0, hL⟩
      refine ⟨_, rfl, l, _, rfl, SqL.of hL, fun m hm => ⟨m, _, rfl, .inl ⟨SqL.of upd_same, fun p hp => ?_⟩⟩⟩
      refine q p _ ((s0.trans (same_new hm)).trans (same_new hp)) ((s0.trans (same_new hm)).free hp) ?_
      rw [upd_same]
      unfold lets
      rw [List.map_reverse, List.map_map]
      rfl
/-! ### _law_power -/
theorem scPower : FnScope ["_law_number_here", "_law_found"] ["_law_number_here"] (defScope lPower) := ⟨rfl, rfl, rfl, by decide +kernel, rfl, by decide +kernel, by decide +kernel⟩
theorem ok_power {f : Addr} {fd : FuncData} (g : GDef K mg "_law_power" lPower ["_law_number_here"] f fd) : FnOk P w K mg base CX0 1 f fd ["_law_number_here"] spSigns := by
  refine g.F.ok scPower (fun vs H Q E h => ?_) (fun cdv A outer s H vs Q E hr h => ?_)
  · obtain ⟨x, rfl, _⟩ := h
    rfl
  · obtain ⟨x, rfl, k⟩ := h
    refine ⟨_, pss_cons (ps_set (i := 1) scPower.nd rfl (Or.inl rfl) pe_int) (pss_cons (ps_while PassesOwn.never (pt_cmpR op_gt (pv 0) pe_int (nomark _))
      (pss_one (ps_par (i := 0) (j := 1) (by rfl) scPower.nd rfl rfl (by decide) rfl rfl (pa_cons (pe_op op_fdiv (pv 0) pe_int) (pa_cons (pe_op op_add (pv 1) pe_int) pa_nil)) (by rfl))))
      (pss_one (ps_ret (pv 1)))), ?_⟩
    refine ⟨fun m σ H' => H' = H ∧ ∃ y c : Int, σ = [some (.int y), some (.int c)] ∧ c + (y.toNat.log2 : Nat) = (x.toNat.log2 : Nat) ∧ m = y.toNat, ⟨_, rfl, x, 0, rfl, by omega, rfl⟩, ?_⟩
    rintro m σ H' ⟨rfl, y, c, rfl, hc, rfl⟩
    refine ⟨_, rfl, _, _, rfl, rfl, _, rfl, ite2 (fun h => ?_) (fun h => ?_)⟩
    · have h1 : (1 : Int) < y := of_decide_eq_true h
      refine ⟨_, fun σ' H2 h2 => h2, ?_⟩
      refine ⟨_, rfl, _, _, rfl, rfl, ⟨by decide, by decide⟩, _, rfl, _, _, rfl, rfl, _, _, rfl, ?_⟩
      refine ⟨(y / 2).toNat, by omega, rfl, y / 2, c + 1, rfl, ?_, rfl⟩
      have := log2_step (n := y.toNat) (by omega)
      rw [show y.toNat / 2 = (y / 2).toNat by omega] at this
      omega
    · have h1 : ¬ (1 : Int) < y := fun q => h (decide_eq_true q)
      have := log2_low (n := y.toNat) (by omega)
      rw [this] at hc
      refine ⟨_, rfl, ?_⟩
      rw [show c = ((x.toNat.log2 : Nat) : Int) by omega]
      exact k
end
end K11
namespace K11
open PySem L2
/-- the further fields of a coder by how many letters were sent, and what stands behind them -/
abbrev Fam := (Nat → List (Str × V)) → Hp → Prop
def FamW : Fam := fun Tn _ => Tn = fun _ => []
def FamR (K : PySem.W.Frag) (L : List Int) : Fam := fun Tn H => ∃ g, Tn = (fun n => rtl g (cd L (n + 4))) ∧ SqT K H g (L.map V.int)
structure FamOk (F : Fam) : Prop where
  keep : ∀ {Tn : Nat → List (Str × V)} {H H' : Hp}, F Tn H → (∀ a ys, Rd H a (.tup ys) → Rd H' a (.tup ys)) → F Tn H'
  few : ∀ {Tn : Nat → List (Str × V)} {H : Hp}, F Tn H → ∀ n, (Tn n).length ≤ 10
  no : ∀ {Tn : Nat → List (Str × V)} {H : Hp}, F Tn H → ∀ n m, ¬ ("signs" : Str) = m → ¬ ("code" : Str) = m → (Tn n).lookup m = none
theorem famW_ok : FamOk FamW := ⟨fun h _ => h, fun h n => by rw [h]; exact Nat.zero_le _, fun h n m _ _ => by rw [h]; rfl⟩
theorem famR_ok {K : PySem.W.Frag} {L : List Int} : FamOk (FamR K L) := ⟨fun ⟨g, e, t⟩ k => ⟨g, e, sqT_keep t (k g)⟩, fun ⟨g, e, _⟩ n => by rw [e]; show 2 ≤ 10; decide, fun ⟨g, e, _⟩ n m h1 h2 => by rw [e]; exact rtl_no h1 h2⟩
/-- the names of a coder's fields -/
def fnames : List Str := ["low", "breadth", "room", "sent", "learned_ones", "signs", "code"]
theorem no_of {F : Fam} (fo : FamOk F) {Tn : Nat → List (Str × V)} {H : Hp} (f : F Tn H) {n : Nat} {m : Str} {low br room sent : Int} {d : Addr} (h : fnames.contains m = false) : (fl (Tn n) low br room sent d).lookup m = none := by
  have g : ∀ x ∈ fnames, ¬ x = m := fun x hx e => by
    subst e
    rw [List.contains_iff_mem.mpr hx] at h
    cases h
  exact fl_no (g _ (by simp [fnames])) (g _ (by simp [fnames])) (g _ (by simp [fnames])) (g _ (by simp [fnames])) (g _ (by simp [fnames])) (fo.no f n m (g _ (by simp [fnames])) (g _ (by simp [fnames])))
/-- a coder of the class C with such fields -/
def CAt (C : Addr) (F : Fam) (H : Hp) (p d : Addr) (s : St0) : Prop := ∃ Tn, F Tn H ∧ CodAt C (Tn s.n) H p d s
theorem kp_rd {p d : Addr} {H H' : Hp} {C dx : Addr} {fs : List (Str × V)} {ks : List (Key × V)} (e : Kp p d H H') (hp : H p = some (.ins C dx fs)) (hd : H d = some (.dK ks)) : ∀ a ys, Rd H a (.tup ys) → Rd H' a (.tup ys) := fun a ys r => by
  rcases r with r | ⟨o, r⟩
  · exact .inl (e _ _ r (ne_of r hp (by intro z; cases z)) (ne_of r hd (by intro z; cases z)))
  · exact .inr ⟨o, e _ _ r (ne_of r hp (by intro z; cases z)) (ne_of r hd (by intro z; cases z))⟩
theorem upd_rd {p : Addr} {H : Hp} {C dx : Addr} {fs : List (Str × V)} {o : HO} (hp : H p = some (.ins C dx fs)) : ∀ a ys, Rd H a (.tup ys) → Rd (upd H p o) a (.tup ys) := fun a ys r => by
  rcases r with r | ⟨o, r⟩
  · exact .inl (by rw [upd_ne (ne_of r hp (by intro z; cases z))]; exact r)
  · exact .inr ⟨o, by rw [upd_ne (ne_of r hp (by intro z; cases z))]; exact r⟩
theorem updD_rd {p : Addr} {H : Hp} {ks : List (Key × V)} {o : HO} (hp : H p = some (.dK ks)) : ∀ a ys, Rd H a (.tup ys) → Rd (upd H p o) a (.tup ys) := fun a ys r => by
  rcases r with r | ⟨o, r⟩
  · exact .inl (by rw [upd_ne (ne_of r hp (by intro z; cases z))]; exact r)
  · exact .inr ⟨o, by rw [upd_ne (ne_of r hp (by intro z; cases z))]; exact r⟩
theorem same_rd {H H' : Hp} (e : Same H H') : ∀ a ys, Rd H a (.tup ys) → Rd H' a (.tup ys) := fun a ys r => by
  rcases r with r | ⟨o, r⟩
  · exact .inl (e _ _ r)
  · exact .inr ⟨o, e _ _ r⟩
theorem CAt.same {C : Addr} {F : Fam} (ok : FamOk F) {H H' : Hp} {p d : Addr} {s : St0} (c : CAt C F H p d s) (e : Same H H') : CAt C F H' p d s := by
  obtain ⟨Tn, f, c⟩ := c
  exact ⟨Tn, ok.keep f (same_rd e), c.same e⟩
/-- all but the object at p -/
def Kp1 (p : Addr) (H H' : Hp) : Prop := ∀ b o, H b = some o → b ≠ p → H' b = some o
section
variable {P : Program} {w : World} {K : PySem.W.Frag} {mg : Str → Option Value} {base : Heap}
/-! ### Coder.__init__ -/
def spCInit (C : Addr) : Sp := fun vs H Q _ => ∃ (p dx : Addr), vs = [.ref p] ∧ H p = some (.ins C dx []) ∧ ∀ (d : Addr) (H' : Hp), H d = none → CodAt C [] H' p d cs0 → Kp1 p H H' → Q .non H'
theorem scCInit : FnScope ["self"] ["self"] (defScope sCInit) := ⟨rfl, rfl, rfl, by decide +kernel, rfl, by decide +kernel, by decide +kernel⟩
theorem ok_cinit {C f : Addr} {fd : FuncData} (g : MDef K "__init__" "Coder.__init__" sCInit ["self"] f fd) (T : Txt K mg) (c : CCls K C) : FnOk P w K mg base CX0 1 f fd ["self"] (spCInit C) := by
  refine g.F.ok scCInit (fun vs H Q E h => ?_) (fun cdv A outer s H vs Q E hr h => ?_)
  · obtain ⟨p, dx, rfl, _⟩ := h
    rfl
  · obtain ⟨p, dx, rfl, hp, k⟩ := h
    obtain ⟨tF, hF⟩ := T.cFirst
    refine ⟨_, pss_cons (ps_fld (pv 0) pe_int rfl) (pss_cons (ps_fld (pv 0) (pe_glob (v := .int 4294967296) rfl hF ⟨_, rfl⟩) rfl) (pss_cons (ps_fld (pv 0) (pe_glob (v := .int 4294967296) rfl hF ⟨_, rfl⟩) rfl)
      (pss_cons (ps_fld (pv 0) pe_int rfl) (pss_one (ps_fld (pv 0) pe_dnewK rfl))))), ?_⟩
    refine ⟨_, rfl, p, C, dx, [], rfl, hp, c.cl, c.nLow, (by show 0 < 1000; decide), ?_⟩
    refine ⟨_, rfl, p, C, dx, _, rfl, upd_same, c.cl, c.nBr, (by show 1 < 1000; decide), ?_⟩
    refine ⟨_, rfl, p, C, dx, _, rfl, upd_same, c.cl, c.nRoom, (by rw [show (putF "breadth" (V.int 4294967296) (putF "low" (V.int 0) []) : List (Str × V)) = [(("low" : Str), V.int 0), (("breadth" : Str), V.int 4294967296)] from ptc n1]; show 2 < 1000; decide), ?_⟩
    refine ⟨_, rfl, p, C, dx, _, rfl, upd_same, c.cl, c.nSent, ?_, ?_⟩
    · rw [show (putF "breadth" (V.int 4294967296) (putF "low" (V.int 0) []) : List (Str × V)) = [(("low" : Str), V.int 0), (("breadth" : Str), V.int 4294967296)] from ptc n1, ptc n2, ptc n5]
      show 3 < 1000; decide
    intro d hd
    have npd : p ≠ d := fun e => by
      rw [← e, upd_same] at hd
      cases hd
    refine ⟨_, rfl, p, C, dx, _, rfl, (by rw [upd_ne npd]; exact upd_same), c.cl, c.nLrn, ?_, ?_⟩
    · rw [show (putF "breadth" (V.int 4294967296) (putF "low" (V.int 0) []) : List (Str × V)) = [(("low" : Str), V.int 0), (("breadth" : Str), V.int 4294967296)] from ptc n1, ptc n2, ptc n5, show (putF "room" (V.int 4294967296) [] : List (Str × V)) = [(("room" : Str), V.int 4294967296)] from rfl, ptc n3, ptc n6, ptc n8]
      show 4 < 1000; decide
    refine k d _ ?_ ⟨⟨dx, ?_⟩, by rw [upd_ne npd.symm, upd_same]; rfl⟩ fun b o e hb => ?_
    · rw [upd_ne npd.symm, upd_ne npd.symm, upd_ne npd.symm, upd_ne npd.symm] at hd
      exact hd
    · rw [upd_same, fl_made]
      rfl
    · have nbd : b ≠ d := fun e2 => by
        rw [e2] at e hb
        rw [upd_ne hb, upd_ne hb, upd_ne hb, upd_ne hb, e] at hd
        cases hd
      rw [upd_ne hb, upd_ne nbd, upd_ne hb, upd_ne hb, upd_ne hb, upd_ne hb]
      exact e
/-! ### chance_of, learn -/
def spChance (C : Addr) : Sp := fun vs H Q _ => ∃ (p d : Addr) (T : List (Str × V)) (s : St0) (x : Str), vs = [.ref p, .str x] ∧ CodAt C T H p d s ∧ Q (.int (look s.lrn x)) H
theorem scChance : FnScope ["self", "name"] ["self", "name"] (defScope sChance) := ⟨rfl, rfl, rfl, by decide +kernel, rfl, by decide +kernel, by decide +kernel⟩
theorem ok_chance {C f : Addr} {fd : FuncData} (g : MDef K "chance_of" "Coder.chance_of" sChance ["self", "name"] f fd) (T : Txt K mg) (c : CCls K C) : FnOk P w K mg base CX0 1 f fd ["self", "name"] (spChance C) := by
  refine g.F.ok scChance (fun vs H Q E h => ?_) (fun cdv A outer s H vs Q E hr h => ?_)
  · obtain ⟨p, d, T, s, x, rfl, _⟩ := h
    rfl
  · obtain ⟨p, d, Tl, s, x, rfl, ⟨⟨dx, h1⟩, h2⟩, k⟩ := h
    obtain ⟨tE, hE⟩ := T.cEven
    refine ⟨_, pss_one (ps_ret (pe_dget2 (hu_of hr) (pe_fld (pv 0) rfl) (pv 1) (pe_glob (v := .int 1024) rfl hE ⟨_, rfl⟩) ⟨by rfl, by rfl, by rfl, by rfl⟩)), ?_⟩
    refine ⟨_, rfl, p, C, dx, _, _, rfl, h1, c.cl, c.nLrn, fl_lrn, d, rfl, .inl ⟨_, .of h2⟩, _, rfl, _, DGet.k (k := Sum.inr x) h2, ?_⟩
    rw [kvs_get]
    exact k
def spLearn (C : Addr) : Sp := fun vs H Q _ => ∃ (p d : Addr) (T : List (Str × V)) (s : St0) (x : Str) (c v : Int), vs = [.ref p, .str x, .int c, .int v] ∧ CodAt C T H p d s ∧ s.lrn.length ≤ 1000 ∧
  ∀ H', CodAt C T H' p d { s with lrn := put s.lrn x (upC c v) } → Kp p d H H' → Q .non H'
theorem scLearn : FnScope ["self", "name", "chance", "value"] ["self", "name", "chance", "value"] (defScope sLearn) := ⟨rfl, rfl, rfl, by decide +kernel, rfl, by decide +kernel, by decide +kernel⟩
theorem ok_learn {C f : Addr} {fd : FuncData} (g : MDef K "learn" "Coder.learn" sLearn ["self", "name", "chance", "value"] f fd) (T : Txt K mg) (c : CCls K C) : FnOk P w K mg base CX0 1 f fd ["self", "name", "chance", "value"] (spLearn C) := by
  refine g.F.ok scLearn (fun vs H Q E h => ?_) (fun cdv A outer s H vs Q E hr h => ?_)
  · obtain ⟨p, d, T, s, x, c, v, rfl, _⟩ := h
    rfl
  · obtain ⟨p, d, Tl, s, x, cc, v, rfl, ⟨⟨dx, h1⟩, h2⟩, hl, k⟩ := h
    obtain ⟨tW, hW⟩ := T.cWhole
    obtain ⟨tS, hS⟩ := T.cSlow
    have npd : p ≠ d := ne_of h1 h2 (by intro z; cases z)
    refine ⟨_, pss_one (ps_dput (hu_of hr) (pe_fld (pv 0) rfl) (pv 1) (pe_ifExp (pt_cmpR op_eq (pv 3) pe_int (nomark _))
      (pe_op op_add (pv 2) (pe_op op_fdiv (pe_op op_sub (pe_glob (v := .int 2048) rfl hW ⟨_, rfl⟩) (pv 2)) (pe_glob (v := .int 32) rfl hS ⟨_, rfl⟩)))
      (pe_op op_sub (pv 2) (pe_op op_fdiv (pv 2) (pe_glob (v := .int 32) rfl hS ⟨_, rfl⟩)))) rfl), ?_⟩
    have fin : ∀ y : Int, y = upC cc v → ∃ (v' : V), [some (V.ref p), some (V.str x), some (V.int cc), some (V.int v)][0]? = some (some v') ∧ ∃ a C' dx' fs v'', v' = V.ref a ∧ H a = some (.ins C' dx' fs) ∧ Cls K C' ∧ NoAttr K C' "learned_ones" ∧ fs.lookup ("learned_ones" : Str) = some v'' ∧
        ∃ v''', [some (V.ref p), some (V.str x), some (V.int cc), some (V.int v)][1]? = some (some v''') ∧ ∃ a2 H4, v'' = V.ref a2 ∧ DPut H a2 v''' (.int y) H4 ∧ Q .non H4 := by
      rintro y rfl
      refine ⟨_, rfl, p, C, dx, _, _, rfl, h1, c.cl, c.nLrn, fl_lrn, _, rfl, d, _, rfl, DPut.k (k := Sum.inr x) h2 (by rw [kvs_len]; exact small1000 hl), ?_⟩
      refine k _ ⟨⟨dx, by rw [upd_ne npd]; exact h1⟩, ?_⟩ fun b o e hb1 hb2 => by rw [upd_ne hb2]; exact e
      rw [upd_same, kvs_put]
    refine ⟨_, rfl, rfl, _, rfl, ite2 (fun h => ?_) (fun h => ?_)⟩
    · have e0 : v = 0 := V.int.inj (of_decide_eq_true h)
      refine ⟨_, rfl, _, rfl, _, _, rfl, rfl, _, _, rfl, rfl, ⟨by decide, by decide⟩, _, _, rfl, rfl, ?_⟩
      exact fin _ (by unfold upC; rw [if_pos e0])
    · have e0 : ¬ v = 0 := fun q => h (decide_eq_true (by rw [q]))
      refine ⟨_, rfl, _, rfl, _, _, rfl, rfl, ⟨by decide, by decide⟩, _, _, rfl, rfl, ?_⟩
      exact fin _ (by unfold upC; rw [if_neg e0])
end
end K11
namespace K11
open PySem L2
section
variable {K : PySem.W.Frag} {te : TE} {rd : V → V → Hp → VK → Prop} {f : Str} {D : Ends} {σ : L2.St} {H : Hp} {p C dx : Addr} {fs fs' : List (Str × V)} {x z : Int} {i : Nat}
/-- self.f op= e -/
theorem aug_by (hσ : σ[i]? = some (some (.ref p))) (h1 : H p = some (.ins C dx fs)) (cl : Cls K C) (na : NoAttr K C f) (lk : fs.lookup f = some (.int x)) (hl : fs.length < 1000)
    (hop : ∀ Q : VK, Q (.int z) H → te σ H fun y H2 => rd (.int x) y H2 Q) (hput : putF f (.int z) fs = fs') (k : D.nx σ (upd H p (.ins C dx fs'))) : sFldAug K (tVar i) te rd f D σ H :=
  ⟨_, hσ, p, C, dx, fs, .int x, rfl, h1, cl, na, lk, hop _ ⟨dx, fs, h1, hl, by rw [hput]; exact k⟩⟩
/-- self.f = e -/
theorem fld_by {v : V} (hσ : σ[i]? = some (some (.ref p))) (h1 : H p = some (.ins C dx fs)) (cl : Cls K C) (na : NoAttr K C f) (hl : fs.length < 1000)
    (hop : ∀ Q : VK, Q v H → te σ H Q) (hput : putF f v fs = fs') (k : D.nx σ (upd H p (.ins C dx fs'))) : sFld K (tVar i) te f D σ H :=
  hop _ ⟨_, hσ, p, C, dx, fs, rfl, h1, cl, na, hl, by rw [hput]; exact k⟩
/-- self.f read -/
theorem rd_by {v : V} {Q : VK} (hσ : σ[i]? = some (some (.ref p))) (h1 : H p = some (.ins C dx fs)) (cl : Cls K C) (na : NoAttr K C f) (lk : fs.lookup f = some v) (k : Q v H) : tFld K (tVar i) f σ H Q :=
  ⟨_, hσ, p, C, dx, fs, v, rfl, h1, cl, na, lk, k⟩
end
theorem fl_small {T : List (Str × V)} {low br room sent : Int} {d : Addr} (h : T.length ≤ 10) : (fl T low br room sent d).length < 1000 := by
  rw [fl_len]; omega
section
variable {P : Program} {w : World} {K : PySem.W.Frag} {mg : Str → Option Value} {base : Heap}
/-! ### came, sign_at -/
def spCame (C : Addr) (F : Fam) : Sp := fun vs H Q _ => ∃ (p dx d : Addr) (Tn : Nat → List (Str × V)) (low br room : Int) (n : Nat), vs = [.ref p] ∧ F Tn H ∧ H p = some (.ins C dx (fl (Tn n) low br room ((n + 1 : Nat) : Int) d)) ∧
  ∀ H', (∃ dx', H' p = some (.ins C dx' (fl (Tn (n + 1)) low br room ((n + 1 : Nat) : Int) d))) → Kp1 p H H' → Q .non H'
theorem scCame0 : FnScope ["self"] ["self"] (defScope sCame0) := ⟨rfl, rfl, rfl, by decide +kernel, rfl, by decide +kernel, by decide +kernel⟩
theorem ok_cameW {C f : Addr} {fd : FuncData} (g : MDef K "came" "Coder.came" sCame0 ["self"] f fd) : FnOk P w K mg base CX0 1 f fd ["self"] (spCame C FamW) := by
  refine g.F.ok scCame0 (fun vs H Q E h => ?_) (fun cdv A outer s H vs Q E hr h => ?_)
  · obtain ⟨p, dx, d, Tn, low, br, room, n, rfl, _⟩ := h
    rfl
  · obtain ⟨p, dx, d, Tn, low, br, room, n, rfl, e, h1, k⟩ := h
    refine ⟨_, pss_one ps_pass, ?_⟩
    have e' : Tn = fun _ => [] := e
    subst e'
    exact k H ⟨dx, h1⟩ fun _ _ h _ => h
def spSignAt (K : PySem.W.Frag) (C : Addr) : Sp := fun vs H Q _ => ∃ (p dx g : Addr) (fs : List (Str × V)) (L : List Int) (i : Nat), vs = [.ref p, .int (i : Int)] ∧ H p = some (.ins C dx fs) ∧ fs.lookup ("signs" : Str) = some (.ref g) ∧ SqT K H g (L.map V.int) ∧ Q (.int (L.getD i 0)) H
theorem scSignAt : FnScope ["self", "at"] ["self", "at"] (defScope sSignAt) := ⟨rfl, rfl, rfl, by decide +kernel, rfl, by decide +kernel, by decide +kernel⟩
theorem ok_signAt {C f : Addr} {fd : FuncData} (g : MDef K "sign_at" "Reader.sign_at" sSignAt ["self", "at"] f fd) (T : Txt K mg) (c : CCls K C) : FnOk P w K mg base CX0 1 f fd ["self", "at"] (spSignAt K C) := by
  refine g.F.ok scSignAt (fun vs H Q E h => ?_) (fun cdv A outer s H vs Q E hr h => ?_)
  · obtain ⟨p, dx, g, fs, L, i, rfl, _⟩ := h
    rfl
  · obtain ⟨p, dx, g, fs, L, i, rfl, h1, h2, h3, k⟩ := h
    refine ⟨_, pss_one (ps_ret (pe_ifExp (pt_cmpR op_lt (pv 1) (pe_callB call_len_seq (by rfl) T.zLen PySem.boot_len (pa_cons (pe_fld (pv 0) rfl) pa_nil)) (nomark _)) (pe_ix ix_tup (pe_fld (pv 0) rfl) (pv 1) (fun _ _ => rfl)) pe_int)), ?_⟩
    refine ⟨_, rfl, _, rfl, p, C, dx, _, _, rfl, h1, c.cl, c.nSigns, h2, ⟨g, _, rfl, .inr h3, _, _, rfl, rfl, _, rfl, ite2 (fun h => ?_) (fun h => ?_)⟩⟩
    · have hi : i < L.length := by
        have := of_decide_eq_true h
        rw [List.length_map] at this
        omega
      refine ⟨_, rfl, p, C, dx, _, _, rfl, h1, c.cl, c.nSigns, h2, _, rfl, g, _, _, V.int L[i], rfl, rfl, h3, atI_nat (by rw [List.getElem?_map, List.getElem?_eq_getElem hi]; rfl), ?_⟩
      rw [List.getD_eq_getElem?_getD, List.getElem?_eq_getElem hi] at k
      exact k
    · have hi : ¬ i < L.length := fun q => h (decide_eq_true (by rw [List.length_map]; omega))
      rw [List.getD_eq_getElem?_getD, List.getElem?_eq_none (by omega)] at k
      exact k
theorem scCameR : FnScope ["self"] ["self"] (defScope sCameR) := ⟨rfl, rfl, rfl, by decide +kernel, rfl, by decide +kernel, by decide +kernel⟩
theorem ok_cameR {C f : Addr} {fd : FuncData} (g : MDef K "came" "Reader.came" sCameR ["self"] f fd) (T : Txt K mg) (c : CCls K C) (mS : Met P w K mg base 1 C "sign_at" (spSignAt K C)) (L : List Int) : FnOk P w K mg base CX0 2 f fd ["self"] (spCame C (FamR K L)) := by
  refine g.F.ok scCameR (fun vs H Q E h => ?_) (fun cdv A outer s H vs Q E hr h => ?_)
  · obtain ⟨p, dx, d, Tn, low, br, room, n, rfl, _⟩ := h
    rfl
  · obtain ⟨p, dx, d, Tn, low, br, room, n, rfl, ⟨g, rfl, hT⟩, h1, k⟩ := h
    obtain ⟨tA, hA⟩ := T.cAhead
    refine ⟨_, pss_one (ps_fld (pv 0) (pe_op op_add (pe_op op_mul (pe_fld (pv 0) rfl) pe_int) (pe_m mS hr (Nat.le_refl _) (pv 0) (pa_cons (pe_op op_sub (pe_op op_add (pe_fld (pv 0) rfl) (pe_glob (v := .int 4) rfl hA ⟨_, rfl⟩)) pe_int) pa_nil))) rfl), ?_⟩
    refine fld_by (v := .int (cd L (n + 1 + 4))) rfl h1 c.cl c.nCode (fl_small (by show 2 ≤ 10; decide)) (fun Q' q' => ?_) fl_put_code ?_
    · refine ⟨_, rfl, p, C, dx, _, _, rfl, h1, c.cl, c.nCode, fl_code, _, _, rfl, rfl, .inr ⟨by decide, by decide⟩, _, rfl, p, dx, _, rfl, h1, ?_, ?_⟩
      · exact fl_no (by decide +kernel) (by decide +kernel) (by decide +kernel) (by decide +kernel) (by decide +kernel) (rtl_no (by decide +kernel) (by decide +kernel))
      refine ⟨_, rfl, p, C, dx, _, _, rfl, h1, c.cl, c.nSent, fl_sent, _, _, rfl, rfl, _, _, rfl, rfl, ?_⟩
      refine ⟨p, dx, g, _, L, n + 4, ?_, h1, fl_signs, hT, _, _, rfl, rfl, ?_⟩
      · show [V.ref p, V.int (((n + 1 : Nat) : Int) + 4 - 1)] = _
        rw [show (((n + 1 : Nat) : Int) + 4 - 1) = ((n + 4 : Nat) : Int) by omega]
      · rw [show n + 1 + 4 = (n + 4) + 1 by omega] at q'
        exact q'
    · exact k _ ⟨dx, upd_same⟩ fun b o e hb => by rw [upd_ne hb]; exact e
/-! ### narrowed -/
def loOf (s : St0) (pt v : Int) : Int := if v = 0 then s.low else s.low + pt
def brOf (s : St0) (pt v : Int) : Int := if v = 0 then pt else s.br - pt
theorem nar_yes {s : St0} {pt v : Int} (h : brOf s pt v < 16777216) : nar s pt v = ⟨loOf s pt v * 256, brOf s pt v * 256, s.n + 1, s.lrn⟩ := if_pos h
theorem nar_no {s : St0} {pt v : Int} (h : ¬ brOf s pt v < 16777216) : nar s pt v = ⟨loOf s pt v, brOf s pt v, s.n, s.lrn⟩ := if_neg h
theorem rm_succ (n : Nat) : rm n * 256 = rm (n + 1) := by
  unfold rm
  rw [Int.pow_succ, Int.mul_assoc]
def spNar (C : Addr) (F : Fam) : Sp := fun vs H Q _ => ∃ (p d : Addr) (s : St0) (pt v : Int), vs = [.ref p, .int pt, .int v] ∧ CAt C F H p d s ∧ 65536 ≤ brOf s pt v ∧ ∀ H', CAt C F H' p d (nar s pt v) → Kp p d H H' → Q .non H'
theorem scNarrow : FnScope ["self", "part", "value"] ["self", "part", "value"] (defScope sNarrow) := ⟨rfl, rfl, rfl, by decide +kernel, rfl, by decide +kernel, by decide +kernel⟩
theorem ok_narrow {C f : Addr} {fd : FuncData} {F : Fam} (fo : FamOk F) (g : MDef K "narrowed" "Coder.narrowed" sNarrow ["self", "part", "value"] f fd) (T : Txt K mg) (c : CCls K C) (mC : Met P w K mg base 2 C "came" (spCame C F)) : FnOk P w K mg base CX0 3 f fd ["self", "part", "value"] (spNar C F) := by
  refine g.F.ok scNarrow (fun vs H Q E h => ?_) (fun cdv A outer s H vs Q E hr h => ?_)
  · obtain ⟨p, d, s, pt, v, rfl, _⟩ := h
    rfl
  · obtain ⟨p, d, s, pt, v, rfl, ⟨Tn, hF, ⟨⟨dx, h1⟩, h2⟩⟩, hb, k⟩ := h
    have npd : p ≠ d := ne_of h1 h2 (by intro z; cases z)
    obtain ⟨tL, hL⟩ := T.cLeast
    refine ⟨_, pss_cons (ps_if (pt_cmpR op_eq (pv 2) pe_int (nomark _)) (pss_one (ps_fld (pv 0) (pv 1) rfl)) (pss_cons (ps_fldaug (pv 0) (pv 1) in_add) (pss_one (ps_fldaug (pv 0) (pv 1) in_sub))))
      (pss_one (ps_while PassesOwn.never (pt_cmpR op_lt (pe_fld (pv 0) rfl) (pe_glob (v := .int 16777216) rfl hL ⟨_, rfl⟩) (nomark _))
        (pss_cons (ps_fldaug (pv 0) pe_int in_mul) (pss_cons (ps_fldaug (pv 0) pe_int in_mul) (pss_cons (ps_fldaug (pv 0) pe_int in_mul) (pss_cons (ps_fldaug (pv 0) pe_int in_add) (pss_one (ps_expr (pe_m0 mC hr (Nat.le_refl _) (pv 0)))))))))), ?_⟩
    have few := fo.few hF
    -- the loop, from the state behind the if
    have loop : ∀ H1 : Hp, F Tn H1 → CodAt C (Tn s.n) H1 p d ⟨loOf s pt v, brOf s pt v, s.n, s.lrn⟩ → Kp p d H H1 →
        tWhile (tTest (tOp (rI0 fun i j => .bl (decide (i < j))) (tFld K (tVar 0) "breadth") (tC (.int 16777216))))
          (tSeq (sFldAug K (tVar 0) (tC (.int 256)) (rI CMul fun i j => .int (i * j)) "low") (tSeq (sFldAug K (tVar 0) (tC (.int 256)) (rI CMul fun i j => .int (i * j)) "breadth")
            (tSeq (sFldAug K (tVar 0) (tC (.int 256)) (rI CMul fun i j => .int (i * j)) "room") (tSeq (sFldAug K (tVar 0) (tC (.int 1)) rAdd "sent") (tDrop (tMeth C "came" (spCame C F) [] E0 (tVar 0) tNil))))))
          { nx := fun _ H' => Q .non H', rt := Q } [some (.ref p), some (.int pt), some (.int v)] H1 := by
      intro H1 f1 c1 k1
      refine ⟨fun m σ H' => σ = [some (.ref p), some (.int pt), some (.int v)] ∧ F Tn H' ∧ Kp p d H H' ∧ ((m = 1 ∧ CodAt C (Tn s.n) H' p d ⟨loOf s pt v, brOf s pt v, s.n, s.lrn⟩) ∨ (m = 0 ∧ CodAt C (Tn (nar s pt v).n) H' p d (nar s pt v) ∧ ¬ (nar s pt v).br < 16777216)), ⟨1, rfl, f1, k1, .inl ⟨rfl, c1⟩⟩, ?_⟩
      rintro m σ H' ⟨rfl, f', k', w1⟩
      rcases w1 with ⟨rfl, ⟨dy, g1⟩, g2⟩ | ⟨rfl, ⟨⟨dy, g1⟩, g2⟩, hn⟩
      · refine ⟨_, rfl, p, C, dy, _, _, rfl, g1, c.cl, c.nBr, fl_br, _, _, rfl, rfl, _, rfl, ite2 (fun h => ?_) (fun h => ?_)⟩
        · have hlt : brOf s pt v < 16777216 := of_decide_eq_true h
          have en := nar_yes hlt
          refine ⟨_, fun σ' H2 h2 => h2, ?_⟩
          refine aug_by (z := loOf s pt v * 256) rfl g1 c.cl c.nLow fl_low (fl_small (few _)) (fun Q' q' => ⟨_, _, rfl, rfl, .inr ⟨by decide, by decide⟩, q'⟩) fl_put_low ?_
          refine aug_by (z := brOf s pt v * 256) rfl upd_same c.cl c.nBr fl_br (fl_small (few _)) (fun Q' q' => ⟨_, _, rfl, rfl, .inr ⟨by decide, by decide⟩, q'⟩) fl_put_br ?_
          refine aug_by (z := rm s.n * 256) rfl upd_same c.cl c.nRoom fl_room (fl_small (few _)) (fun Q' q' => ⟨_, _, rfl, rfl, .inr ⟨by decide, by decide⟩, q'⟩) fl_put_room ?_
          refine aug_by (z := ((s.n : Nat) : Int) + 1) rfl upd_same c.cl c.nSent fl_sent (fl_small (few _)) (fun Q' q' => ⟨_, _, rfl, rfl, q'⟩) fl_put_sent ?_
          rw [upd_upd, upd_upd, upd_upd]
          refine ⟨_, rfl, p, dy, _, rfl, upd_same, no_of fo f' (by decide +kernel), ?_⟩
          refine ⟨p, dy, d, Tn, loOf s pt v * 256, brOf s pt v * 256, rm s.n * 256, s.n, rfl, fo.keep f' (upd_rd g1), upd_same, fun H2 hx2 k2 => ?_⟩
          obtain ⟨dz, hz⟩ := hx2
          have kk : Kp p d H H2 := fun b o e hb1 hb2 => k2 b o (by rw [upd_ne hb1]; exact k' b o e hb1 hb2) hb1
          have hd2 : H2 d = some (.dK (kvs s.lrn)) := k2 d _ (by rw [upd_ne npd.symm]; exact g2) npd.symm
          refine ⟨0, by decide, rfl, fo.keep f' (fun a ys r => ?_), kk, .inr ⟨rfl, ?_, ?_⟩⟩
          · rcases r with r | ⟨o, r⟩
            · have na : a ≠ p := ne_of r g1 (by intro z; cases z)
              exact .inl (k2 a _ (by rw [upd_ne na]; exact r) na)
            · have na : a ≠ p := ne_of r g1 (by intro z; cases z)
              exact .inr ⟨o, k2 a _ (by rw [upd_ne na]; exact r) na⟩
          · rw [en]
            refine ⟨⟨dz, ?_⟩, hd2⟩
            rw [hz, rm_succ]
          · rw [en]
            show ¬ brOf s pt v * 256 < 16777216
            omega
        · have hlt : ¬ brOf s pt v < 16777216 := fun q => h (decide_eq_true q)
          have en := nar_no hlt
          exact k _ ⟨Tn, f', by rw [en]; exact ⟨⟨dy, g1⟩, g2⟩⟩ k'
      · refine ⟨_, rfl, p, C, dy, _, _, rfl, g1, c.cl, c.nBr, fl_br, _, _, rfl, rfl, _, rfl, ite2 (fun h => ?_) (fun h => ?_)⟩
        · exact absurd (of_decide_eq_true h) hn
        · exact k _ ⟨Tn, f', ⟨dy, g1⟩, g2⟩ k'
    have kp1 : ∀ o, Kp p d H (upd H p o) := fun o b u e hb1 _ => by rw [upd_ne hb1]; exact e
    refine ⟨_, rfl, rfl, _, rfl, ite2 (fun h => ?_) (fun h => ?_)⟩
    · have e0 : v = 0 := V.int.inj (of_decide_eq_true h)
      refine fld_by (v := .int pt) rfl h1 c.cl c.nBr (fl_small (few _)) (fun Q' q' => ⟨_, rfl, q'⟩) fl_put_br ?_
      refine loop _ (fo.keep hF (upd_rd h1)) ⟨⟨dx, ?_⟩, by rw [upd_ne npd.symm]; exact h2⟩ (kp1 _)
      rw [upd_same]
      unfold loOf brOf
      rw [if_pos e0, if_pos e0]
    · have e0 : ¬ v = 0 := fun q => h (decide_eq_true (by rw [q]))
      refine aug_by (z := s.low + pt) rfl h1 c.cl c.nLow fl_low (fl_small (few _)) (fun Q' q' => ⟨_, rfl, _, _, rfl, rfl, q'⟩) fl_put_low ?_
      refine aug_by (z := s.br - pt) rfl upd_same c.cl c.nBr fl_br (fl_small (few _)) (fun Q' q' => ⟨_, rfl, _, _, rfl, rfl, q'⟩) fl_put_br ?_
      rw [upd_upd]
      refine loop _ (fo.keep hF (upd_rd h1)) ⟨⟨dx, ?_⟩, by rw [upd_ne npd.symm]; exact h2⟩ (kp1 _)
      rw [upd_same]
      unfold loOf brOf
      rw [if_neg e0, if_neg e0]
end
end K11
namespace K11
open PySem L2
theorem brOf_ge {s : St0} (o : Ok s) {c v : Int} (hc : 31 ≤ c ∧ c ≤ 2017) : 65536 ≤ brOf s (s.br / 2048 * c) v := by
  obtain ⟨p1, p2, p3, p4, p5⟩ := part_ok o.b0 hc
  unfold brOf
  generalize s.br / 2048 = q at *
  generalize q * c = pt at *
  split <;> omega
theorem put_len (l : List (Str × Int)) (k : Str) (c : Int) : (put l k c).length ≤ l.length + 1 := by
  unfold put
  split
  · rw [List.length_map]; omega
  · rw [List.length_append]; exact Nat.le_refl _
theorem bit_len (s : St0) (k : Str) (v : Int) : (bitS s k v).lrn.length ≤ s.lrn.length + 1 := put_len _ _ _
theorem ones_len (f : Nat → Str) (s : St0) : ∀ k, (onesS f k s).lrn.length ≤ s.lrn.length + k
  | 0 => Nat.le_refl _
  | k + 1 => by
    have h1 := ones_len f s k
    have h2 := bit_len (onesS f k s) (f k) 1
    show (bitS (onesS f k s) (f k) 1).lrn.length ≤ _
    omega
/-- the name of a number's k-th sign -/
def nk (x : Str) (k : Nat) : Str := x ++ (" " : Str) ++ ((toString (k : Int) : String) : Str)
theorem ts_len0 : ∀ k : Fin 13, (((toString ((k.val : Nat) : Int) : String) : Str)).length ≤ 2 := by decide +kernel
theorem ts_len (k : Nat) (h : k ≤ 12) : (((toString (k : Int) : String) : Str)).length ≤ 2 := ts_len0 ⟨k, by omega⟩
theorem str_len (a b : Str) : (a ++ b).length = a.length + b.length := by
  show (a.cps ++ b.cps).size = _
  rw [Array.size_append]; rfl
theorem sp_len : ((" " : Str)).length = 1 := by decide +kernel
theorem empty_str (x : Str) : Str.empty ++ x = x := by
  show (⟨#[] ++ x.cps⟩ : Str) = x
  rw [Array.empty_append]
section
variable {P : Program} {w : World} {K : PySem.W.Frag} {mg : Str → Option Value} {base : Heap}
/-! ### Writer.bit, even -/
def spWBit (C : Addr) : Sp := fun vs H Q _ => ∃ (p d : Addr) (s : St0) (x : Str) (v : Int), vs = [.ref p, .str x, .int v] ∧ (v = 0 ∨ v = 1) ∧ CAt C FamW H p d s ∧ Ok s ∧ s.lrn.length ≤ 1000 ∧ ∀ H', CAt C FamW H' p d (bitS s x v) → Kp p d H H' → Q .non H'
theorem scWBit : FnScope ["self", "name", "value", "chance"] ["self", "name", "value"] (defScope sWBit) := ⟨rfl, rfl, rfl, by decide +kernel, rfl, by decide +kernel, by decide +kernel⟩
theorem ok_wbit {C f : Addr} {fd : FuncData} (g : MDef K "bit" "Writer.bit" sWBit ["self", "name", "value"] f fd) (T : Txt K mg) (c : CCls K C) (cN : Cal P w K mg base 2 "need_sign" spNeed) (mCh : Met P w K mg base 1 C "chance_of" (spChance C))
    (mNa : Met P w K mg base 3 C "narrowed" (spNar C FamW)) (mL : Met P w K mg base 1 C "learn" (spLearn C)) : FnOk P w K mg base CX0 4 f fd ["self", "name", "value"] (spWBit C) := by
  refine g.F.ok scWBit (fun vs H Q E h => ?_) (fun cdv A outer s H vs Q E hr h => ?_)
  · obtain ⟨p, d, s, x, v, rfl, _⟩ := h
    rfl
  · obtain ⟨p, d, s, x, v, rfl, h01, ⟨Tn, hF, c0⟩, o, hl, k⟩ := h
    obtain ⟨⟨dx, h1⟩, h2⟩ := id c0
    obtain ⟨tW, hW⟩ := T.cWhole
    refine ⟨_, pss_cons (ps_expr (pe_g cN hr (by decide) (pa_cons (pv 2) pa_nil))) (pss_cons (ps_set (i := 3) scWBit.nd rfl (Or.inl rfl) (pe_m mCh hr (by decide) (pv 0) (pa_cons (pv 1) pa_nil)))
      (pss_cons (ps_expr (pe_m mNa hr (by decide) (pv 0) (pa_cons (pe_op op_mul (pe_op op_fdiv (pe_fld (pv 0) rfl) (pe_glob (v := .int 2048) rfl hW ⟨_, rfl⟩)) (pv 3)) (pa_cons (pv 2) pa_nil))))
      (pss_one (ps_expr (pe_m mL hr (by decide) (pv 0) (pa_cons (pv 1) (pa_cons (pv 3) (pa_cons (pv 2) pa_nil)))))))), ?_⟩
    refine ⟨_, rfl, v, rfl, h01, ?_⟩
    refine ⟨_, rfl, p, dx, _, rfl, h1, no_of famW_ok hF (by decide +kernel), _, rfl, p, d, _, s, x, rfl, c0, ?_⟩
    have hc := look_mem (k := x) o.ch
    refine ⟨_, rfl, p, dx, _, rfl, h1, no_of famW_ok hF (by decide +kernel), _, rfl, p, C, dx, _, _, rfl, h1, c.cl, c.nBr, fl_br, _, _, rfl, rfl, ⟨by decide, by decide⟩, _, rfl, _, _, rfl, rfl, .inr ⟨by omega, by omega⟩, _, rfl, ?_⟩
    refine ⟨p, d, s, s.br / 2048 * look s.lrn x, v, rfl, ⟨Tn, hF, c0⟩, brOf_ge o hc, fun H1 c1 k1 => ?_⟩
    obtain ⟨Tm, hF1, c1⟩ := c1
    obtain ⟨⟨dy, g1⟩, g2⟩ := id c1
    refine ⟨_, rfl, p, dy, _, rfl, g1, no_of famW_ok hF1 (by decide +kernel), _, rfl, _, rfl, _, rfl, ?_⟩
    have el : (nar s (s.br / 2048 * look s.lrn x) v).lrn = s.lrn := nar_lrn _ _ _
    refine ⟨p, d, _, _, x, look s.lrn x, v, rfl, c1, by rw [el]; exact hl, fun H2 c2 k2 => ?_⟩
    refine k H2 ⟨Tm, famW_ok.keep hF1 (kp_rd k2 g1 g2), ?_⟩ (k1.trans k2)
    rw [el] at c2
    exact c2
def spWEven (C : Addr) : Sp := fun vs H Q _ => ∃ (p d : Addr) (s : St0) (v : Int), vs = [.ref p, .int v] ∧ (v = 0 ∨ v = 1) ∧ CAt C FamW H p d s ∧ Ok s ∧ ∀ H', CAt C FamW H' p d (evS s v) → Kp p d H H' → Q .non H'
theorem scWEven : FnScope ["self", "value"] ["self", "value"] (defScope sWEven) := ⟨rfl, rfl, rfl, by decide +kernel, rfl, by decide +kernel, by decide +kernel⟩
theorem ok_weven {C f : Addr} {fd : FuncData} (g : MDef K "even" "Writer.even" sWEven ["self", "value"] f fd) (T : Txt K mg) (c : CCls K C) (cN : Cal P w K mg base 2 "need_sign" spNeed)
    (mNa : Met P w K mg base 3 C "narrowed" (spNar C FamW)) : FnOk P w K mg base CX0 4 f fd ["self", "value"] (spWEven C) := by
  refine g.F.ok scWEven (fun vs H Q E h => ?_) (fun cdv A outer s H vs Q E hr h => ?_)
  · obtain ⟨p, d, s, v, rfl, _⟩ := h
    rfl
  · obtain ⟨p, d, s, v, rfl, h01, ⟨Tn, hF, c0⟩, o, k⟩ := h
    obtain ⟨⟨dx, h1⟩, h2⟩ := id c0
    obtain ⟨tW, hW⟩ := T.cWhole
    obtain ⟨tE, hE⟩ := T.cEven
    refine ⟨_, pss_cons (ps_expr (pe_g cN hr (by decide) (pa_cons (pv 1) pa_nil)))
      (pss_one (ps_expr (pe_m mNa hr (by decide) (pv 0) (pa_cons (pe_op op_mul (pe_op op_fdiv (pe_fld (pv 0) rfl) (pe_glob (v := .int 2048) rfl hW ⟨_, rfl⟩)) (pe_glob (v := .int 1024) rfl hE ⟨_, rfl⟩)) (pa_cons (pv 1) pa_nil))))), ?_⟩
    refine ⟨_, rfl, v, rfl, h01, ?_⟩
    refine ⟨_, rfl, p, dx, _, rfl, h1, no_of famW_ok hF (by decide +kernel), _, rfl, p, C, dx, _, _, rfl, h1, c.cl, c.nBr, fl_br, _, _, rfl, rfl, ⟨by decide, by decide⟩, _, _, rfl, rfl, .inr ⟨by decide, by decide⟩, _, rfl, ?_⟩
    exact ⟨p, d, s, s.br / 2048 * 1024, v, rfl, ⟨Tn, hF, c0⟩, brOf_ge o ⟨by decide, by decide⟩, fun H1 c1 k1 => k H1 c1 k1⟩
end
end K11
namespace K11
open PySem L2
theorem CAt.ob {C : Addr} {F : Fam} {H : Hp} {p d : Addr} {s : St0} (fo : FamOk F) (c : CAt C F H p d s) : ∃ dx fs, H p = some (.ins C dx fs) ∧ H d = some (.dK (kvs s.lrn)) ∧ ∀ m : Str, fnames.contains m = false → fs.lookup m = none := by
  obtain ⟨Tn, f, ⟨⟨dx, h1⟩, h2⟩⟩ := c
  exact ⟨dx, _, h1, h2, fun m hm => no_of fo f hm⟩
theorem CAt.keep_lst {C : Addr} {F : Fam} {H H' : Hp} {p d l : Addr} {s : St0} {xs : List V} (c : CAt C F H p d s) (k : Kp p d H H') (h : H l = some (.lst xs)) : H' l = some (.lst xs) := by
  obtain ⟨Tn, f, ⟨⟨dx, h1⟩, h2⟩⟩ := c
  exact k _ _ h (ne_of h h1 (by intro z; cases z)) (ne_of h h2 (by intro z; cases z))
theorem nk_len {x : Str} {k : Nat} (hx : x.length ≤ 20) (hk : k ≤ 12) : (nk x k).length ≤ 30 := by
  unfold nk
  rw [str_len, str_len, sp_len]
  have := ts_len k hk
  omega
section
variable {P : Program} {w : World} {K : PySem.W.Frag} {mg : Str → Option Value} {base : Heap}
/-- f'{name} {at}' -/
theorem joined_by {σ : L2.St} {H : Hp} {i j : Nat} {x : Str} {k : Nat} {Q : VK} (hi : σ[i]? = some (some (.str x))) (hj : σ[j]? = some (some (.int (k : Int)))) (hx : x.length ≤ 20) (hk : k ≤ 12) (q : Q (.str (nk x k)) H) :
    tJs [tFmt (tVar i), tC (.str " "), tFmt (tVar j)] Str.empty σ H fun out H1 => Q (.str out) H1 := by
  have ht := ts_len k hk
  have hs := sp_len
  refine ⟨_, hi, .inl ⟨x, rfl, Nat.le_trans hx (by decide), x, rfl, by rw [empty_str]; exact Nat.le_trans hx (by decide), " ", rfl, ?_, _, hj, .inr ⟨(k : Int), rfl, ?_, _, rfl, ?_, ?_⟩⟩⟩
  · rw [empty_str, str_len, hs]
    exact Nat.le_trans (by omega : _ ≤ 21) (by decide)
  · have : ((k : Int)).natAbs.log2 ≤ k := by
      rw [Int.natAbs_natCast]
      exact Nat.le_trans (Nat.log2_le_self k) (Nat.le_refl _)
    omega
  · rw [empty_str, str_len, str_len, hs]
    exact Nat.le_trans (by omega : _ ≤ 23) (by decide)
  · show Q (.str (Str.empty ++ x ++ " " ++ ((toString (k : Int) : String) : Str))) H
    rw [empty_str]
    exact q
theorem joined_args {σ : L2.St} {H : Hp} {i j : Nat} {x : Str} {k : Nat} {tr : TA} {Q : List V → Hp → Prop} (hi : σ[i]? = some (some (.str x))) (hj : σ[j]? = some (some (.int (k : Int)))) (hx : x.length ≤ 20) (hk : k ≤ 12)
    (q : tr σ H fun xs H2 => Q (.str (nk x k) :: xs) H2) : tCons (fun σ H Q => tJs [tFmt (tVar i), tC (.str " "), tFmt (tVar j)] Str.empty σ H fun out H1 => Q (.str out) H1) tr σ H Q :=
  joined_by (Q := fun y H1 => tr σ H1 fun xs H2 => Q (y :: xs) H2) hi hj hx hk q
/-! ### Writer.number -/
def spWNum (C : Addr) : Sp := fun vs H Q _ => ∃ (p d : Addr) (s : St0) (x : Str) (n m : Nat), vs = [.ref p, .str x, .int (n : Int), .int (m : Int)] ∧ n ≤ m ∧ m ≤ 8190 ∧ x.length ≤ 20 ∧ CAt C FamW H p d s ∧ Ok s ∧ s.lrn.length ≤ 900 ∧
  ∀ H', CAt C FamW H' p d (wrNum (nk x) n m s) → Kp p d H H' → Q .non H'
theorem scWNum : FnScope ["self", "name", "n", "most", "many", "at", "sign"] ["self", "name", "n", "most"] (defScope sWNum) := ⟨rfl, rfl, rfl, by decide +kernel, rfl, by decide +kernel, by decide +kernel⟩
theorem ok_wnum {C f : Addr} {fd : FuncData} (g : MDef K "number" "Writer.number" sWNum ["self", "name", "n", "most"] f fd) (T : Txt K mg) (c : CCls K C) (cW : Cal P w K mg base 1 "is_whole" spWhole) (cS : Cal P w K mg base 1 "signs_in" spSigns)
    (cL : Cal P w K mg base 1 "lower_signs" spLower) (mB : Met P w K mg base 4 C "bit" (spWBit C)) (mE : Met P w K mg base 4 C "even" (spWEven C)) : FnOk P w K mg base CX0 5 f fd ["self", "name", "n", "most"] (spWNum C) := by
  refine g.F.ok scWNum (fun vs H Q E h => ?_) (fun cdv A outer s H vs Q E hr h => ?_)
  · obtain ⟨p, d, s, x, n, m, rfl, _⟩ := h
    rfl
  · obtain ⟨p, d, s, x, n, m, rfl, hnm, hm, hx, c0, o, hl, k⟩ := h
    obtain ⟨tM, hM⟩ := T.cMost
    have hg12 := log12 hm
    have hle : (n + 1).log2 ≤ (m + 1).log2 := log2_mono (by omega) (by omega)
    refine ⟨_, pss_cons (ps_if (PW.pt (pw_or (pt_not (pt_val (pe_g cW hr (by decide) (pa_cons (pv 3) (pa_cons pe_int (pa_cons (pe_glob (v := .int 8190) rfl hM ⟨_, rfl⟩) pa_nil)))))) (pw_or1 (pt_not (pt_val (pe_g cW hr (by decide) (pa_cons (pv 2) (pa_cons pe_int (pa_cons (pv 3) pa_nil))))))))) (pss_one ps_never) pss_nil)
      (pss_cons (ps_set (i := 4) scWNum.nd rfl (Or.inl rfl) (pe_g cS hr (by decide) (pa_cons (pe_op op_add (pv 2) pe_int) pa_nil)))
      (pss_cons (ps_for PassesOwn.never rfl (pi_range1 rfl T.zRange (pa_cons (pv 4) pa_nil)) (pg_name (i := 5) scWNum.nd rfl (Or.inl rfl))
        (pss_one (ps_expr (pe_m mB hr (by decide) (pv 0) (pa_cons (pe_joined (PJ.cons (pe_fmt (pv 1)) (PJ.cons pe_str (PJ.cons (pe_fmt (pv 5)) PJ.nil)))) (pa_cons pe_int pa_nil))))))
      (pss_cons (ps_if (pt_cmpR op_lt (pv 4) (pe_g cS hr (by decide) (pa_cons (pe_op op_add (pv 3) pe_int) pa_nil)) (nomark _))
        (pss_one (ps_expr (pe_m mB hr (by decide) (pv 0) (pa_cons (pe_joined (PJ.cons (pe_fmt (pv 1)) (PJ.cons pe_str (PJ.cons (pe_fmt (pv 4)) PJ.nil)))) (pa_cons pe_int pa_nil))))) pss_nil)
      (pss_one (ps_for PassesOwn.never rfl (pi_list (pe_g cL hr (by decide) (pa_cons (pe_op op_add (pv 2) pe_int) (pa_cons (pv 4) pa_nil)))) (pg_name (i := 6) scWNum.nd rfl (Or.inl rfl))
        (pss_one (ps_expr (pe_m mE hr (by decide) (pv 0) (pa_cons (pv 6) pa_nil))))))))), ?_⟩
    refine ⟨_, rfl, _, _, _, rfl, _, rfl, ?_⟩
    rw [show (decide ((0 : Int) ≤ (m : Int)) && decide ((m : Int) ≤ 8190)) = true by rw [decide_eq_true (by omega), decide_eq_true (by omega)]; rfl]
    refine iteF ?_
    refine ⟨_, rfl, _, rfl, _, _, _, rfl, _, rfl, ?_⟩
    rw [show (decide ((0 : Int) ≤ (n : Int)) && decide ((n : Int) ≤ (m : Int))) = true by rw [decide_eq_true (by omega), decide_eq_true (by omega)]; rfl]
    refine iteF ?_
    refine ⟨_, rfl, _, _, rfl, rfl, _, rfl, ?_⟩
    rw [show ((n : Int) + 1).toNat = n + 1 by omega]
    -- the last loop, from the state behind the if
    have last : ∀ (H1 : Hp) (v : Option V) (s2 : St0), CAt C FamW H1 p d s2 → Ok s2 → Kp p d H H1 → wrNum (nk x) n m s = (lows (n + 1) (n + 1).log2).foldl evS s2 →
        tFor (iList K (tCall spLower [] E0 (tCons (tOp (rI0 fun i j => .int (i + j)) (tVar 2) (tC (.int 1))) (tCons (tVar 4) tNil)))) (gName 6) (tDrop (tMeth C "even" (spWEven C) [] E0 (tVar 0) (tCons (tVar 6) tNil)))
          { nx := fun _ H' => Q .non H', rt := Q } [some (.ref p), some (.str x), some (.int (n : Int)), some (.int (m : Int)), some (.int (((n + 1).log2 : Nat) : Int)), v, none] H1 := by
      intro H1 v s2 c1 o2 k1 e2
      refine ⟨_, rfl, _, _, rfl, rfl, _, rfl, n + 1, (n + 1).log2, rfl, by omega, fun l H2 s12 hn hL => ?_⟩
      have c2 := c1.same famW_ok s12
      have k2 : Kp p d H H2 := k1.trans (.same s12)
      refine ⟨l, rfl, ⟨_, SqL.of hL⟩, for_list (K := K) (a := l) (xs := (lows (n + 1) (n + 1).log2).map V.int) (fun i σ H' => ∃ v', σ = [some (.ref p), some (.str x), some (.int (n : Int)), some (.int (m : Int)), some (.int (((n + 1).log2 : Nat) : Int)), v, v'] ∧
          CAt C FamW H' p d (((lows (n + 1) (n + 1).log2).take i).foldl evS s2) ∧ Kp p d H H' ∧ H' l = some (.lst ((lows (n + 1) (n + 1).log2).map V.int))) ⟨none, rfl, c2, k2, hL⟩ (fun i σ H' _ ⟨_, _, _, _, h⟩ => SqL.of h) ?_ ?_⟩
      · rintro i y σ H' hi ⟨v', rfl, c3, k3, h3⟩
        rw [List.getElem?_map] at hi
        cases hz : (lows (n + 1) (n + 1).log2)[i]? with
        | none => rw [hz] at hi; cases hi
        | some z =>
          rw [hz] at hi
          cases hi
          have h01 := lows_01 (List.mem_of_getElem? hz)
          obtain ⟨dz, fs, g1, g2, gn⟩ := c3.ob famW_ok
          refine ⟨_, rfl, p, dz, fs, rfl, g1, gn _ (by decide +kernel), _, rfl, p, d, _, z, rfl, h01, c3, fold_ok o2 _, fun H4 c4 k4 => ?_⟩
          refine ⟨some (.int z), rfl, ?_, k3.trans k4, c3.keep_lst k4 h3⟩
          rw [List.take_add_one, hz, Option.toList_some, List.foldl_append]
          exact c4
      · rintro σ H' ⟨v', rfl, c3, k3, h3⟩
        refine k H' ?_ k3
        rw [e2]
        rw [List.length_map, List.take_of_length_le (Nat.le_refl _)] at c3
        exact c3
    refine ⟨_, rfl, (((n + 1).log2 : Nat) : Int), rfl, by omega, by omega, for_range (n := (n + 1).log2) (fun i σ H' => ∃ v, σ = [some (.ref p), some (.str x), some (.int (n : Int)), some (.int (m : Int)), some (.int (((n + 1).log2 : Nat) : Int)), v, none] ∧
      CAt C FamW H' p d (onesS (nk x) i s) ∧ Kp p d H H') ⟨none, rfl, c0, Kp.refl p d H⟩ ?_ ?_⟩
    · rintro i σ H' hi ⟨v, rfl, c1, k1⟩
      obtain ⟨dz, fs, g1, g2, gn⟩ := c1.ob famW_ok
      refine ⟨_, rfl, p, dz, fs, rfl, g1, gn _ (by decide +kernel), ?_⟩
      refine joined_args (k := i) rfl ?_ hx (by omega) ?_
      · show some (some (V.int (0 + (i : Int)))) = _
        rw [Int.zero_add]
      refine ⟨p, d, _, nk x i, 1, rfl, .inr rfl, c1, ones_ok o i, ?_, fun H2 c2 k2 => ?_⟩
      · have := ones_len (nk x) s i; omega
      · exact ⟨_, rfl, c2, k1.trans k2⟩
    · rintro σ H' ⟨v, rfl, c1, k1⟩
      refine ⟨_, rfl, _, rfl, _, _, rfl, rfl, _, rfl, ?_⟩
      rw [show ((m : Int) + 1).toNat = m + 1 by omega]
      refine ⟨_, _, rfl, rfl, _, rfl, ite2 (fun h => ?_) (fun h => ?_)⟩
      · have hlt : (n + 1).log2 < (m + 1).log2 := by have := of_decide_eq_true h; omega
        obtain ⟨dz, fs, g1, g2, gn⟩ := c1.ob famW_ok
        refine ⟨_, rfl, p, dz, fs, rfl, g1, gn _ (by decide +kernel), ?_⟩
        refine joined_args (k := (n + 1).log2) rfl rfl hx (by omega) ?_
        refine ⟨p, d, _, nk x _, 0, rfl, .inl rfl, c1, ones_ok o _, ?_, fun H2 c2 k2 => ?_⟩
        · have := ones_len (nk x) s (n + 1).log2; omega
        · refine last H2 v _ c2 (bit_ok (ones_ok o _) _ _) (k1.trans k2) ?_
          unfold wrNum
          rw [if_pos hlt]
      · have hlt : ¬ (n + 1).log2 < (m + 1).log2 := fun q => h (decide_eq_true (by omega))
        refine last H' v _ c1 (ones_ok o _) k1 ?_
        unfold wrNum
        rw [if_neg hlt]
end
end K11
namespace K11
open PySem L2
theorem rm_pow (n : Nat) : rm n = 256 ^ (n + 4) := by
  unfold rm
  rw [Int.pow_add, Int.mul_comm]
  rfl
theorem natAbs_lt {x : Int} {b : Nat} (h0 : 0 ≤ x) (h : x < 2 ^ b) : x.natAbs < 2 ^ b := by
  have e : ((2 ^ b : Nat) : Int) = 2 ^ b := Int.natCast_pow 2 b
  omega
theorem few_letters {n : Nat} (h : (256 : Int) ^ (n + 4) < 2 ^ 9000) : n + 4 ≤ 1124 := by
  refine Nat.not_lt.mp fun q => ?_
  have h1 : (256 : Int) ^ 1125 ≤ 256 ^ (n + 4) := pow_le_pow_int (by decide) (by omega)
  have h2 : (256 : Int) ^ 1125 = 2 ^ 9000 := by decide +kernel
  omega
section
variable {P : Program} {w : World} {K : PySem.W.Frag} {mg : Str → Option Value} {base : Heap}
/-! ### Writer.letters -/
def spWLet (C : Addr) : Sp := fun vs H Q _ => ∃ (p d : Addr) (s : St0), vs = [.ref p] ∧ CAt C FamW H p d s ∧ Ok s ∧ (256 : Int) ^ (s.n + 4) < 2 ^ 9000 ∧
  ∀ (q : Addr) (H' : Hp) (L : List Int), Same H H' → H q = none → H' q = some (.tup (L.map V.int)) → Good L → In L s → L.length ≤ 2000 → Q (.ref q) H'
theorem scWLet : FnScope ["self", "many", "unit"] ["self"] (defScope sWLet) := ⟨rfl, rfl, rfl, by decide +kernel, rfl, by decide +kernel, by decide +kernel⟩
theorem ok_wlet {C f : Addr} {fd : FuncData} (g : MDef K "letters" "Writer.letters" sWLet ["self"] f fd) (T : Txt K mg) (c : CCls K C) (cL : Cal P w K mg base 1 "letters_in" spLetIn) : FnOk P w K mg base CX0 2 f fd ["self"] (spWLet C) := by
  refine g.F.ok scWLet (fun vs H Q E h => ?_) (fun cdv A outer s H vs Q E hr h => ?_)
  · obtain ⟨p, d, s, rfl, _⟩ := h
    rfl
  · obtain ⟨p, d, s, rfl, ⟨Tn, hF, ⟨⟨dx, h1⟩, h2⟩⟩, o, hsm, k⟩ := h
    have hfew := few_letters hsm
    have hrm := rm_pow s.n
    have hlo : s.low + s.br ≤ 256 ^ (s.n + 4) := by rw [← hrm]; exact o.lr
    have hb0 := o.b0
    have hl0 := o.l0
    refine ⟨_, pss_cons (ps_par (i := 1) (j := 2) (by rfl) scWLet.nd rfl rfl (by decide) rfl rfl (pa_cons pe_int (pa_cons (pe_fld (pv 0) rfl) pa_nil)) (by rfl))
      (pss_cons (ps_while PassesOwn.never (pt_cmpR op_ge (pe_op op_mulW (pe_op op_fdivW (pe_op op_sub (pe_op op_add (pe_fld (pv 0) rfl) (pv 2)) pe_int) (pv 2)) (pv 2)) (pe_op op_add (pe_fld (pv 0) rfl) (pe_fld (pv 0) rfl)) (nomark _))
        (pss_cons (ps_aug (i := 1) scWLet.nd rfl (Or.inl rfl) pe_int ip_add) (pss_one (ps_set (i := 2) scWLet.nd rfl (Or.inl rfl) (pe_op op_fdiv (pv 2) pe_int)))))
      (pss_one (ps_ret (pe_g cL hr (by decide) (pa_cons (pe_op op_fdivW (pe_op op_sub (pe_op op_add (pe_fld (pv 0) rfl) (pv 2)) pe_int) (pv 2)) (pa_cons (pv 1) pa_nil)))))), ?_⟩
    refine ⟨_, rfl, p, C, dx, _, _, rfl, h1, c.cl, c.nRoom, fl_room, _, _, rfl, ?_⟩
    refine ⟨fun m σ H' => H' = H ∧ ∃ j : Nat, j ≤ s.n + 4 ∧ m = s.n + 4 - j ∧ σ = [some (.ref p), some (.int (j : Int)), some (.int (256 ^ (s.n + 4 - j)))], ⟨s.n + 4, rfl, 0, by omega, rfl, by rw [hrm]; rfl⟩, ?_⟩
    rintro m σ H' ⟨rfl, j, hj, rfl, rfl⟩
    have up := pow256_pos (s.n + 4 - j)
    have ule : (256 : Int) ^ (s.n + 4 - j) ≤ 256 ^ (s.n + 4) := pow_le_pow_int (by decide) (by omega)
    generalize hu : (256 : Int) ^ (s.n + 4 - j) = u at *
    have usm : u.natAbs < 2 ^ 9000 := natAbs_lt (by omega) (by omega)
    have div : CDivW (s.low + u - 1) u := wide_div up usm (by decide) (by decide)
    have q0 : 0 ≤ (s.low + u - 1) / u := Int.ediv_nonneg (by omega) (by omega)
    have qle : (s.low + u - 1) / u ≤ s.low + u - 1 := Int.ediv_le_self _ (by omega)
    have e1 : (2 : Int) ^ 9001 = 2 * 2 ^ 9000 := by decide +kernel
    have qsm : ((s.low + u - 1) / u).natAbs < 2 ^ 9001 := natAbs_lt q0 (by rw [e1]; omega)
    have mul : CMulW ((s.low + u - 1) / u) u := wide_mul qsm usm (by decide) (by decide) (by decide)
    refine ⟨_, rfl, p, C, dx, _, _, rfl, h1, c.cl, c.nLow, fl_low, _, rfl, _, _, rfl, rfl, _, _, rfl, rfl, _, rfl, _, _, rfl, rfl, div, _, rfl, _, _, rfl, rfl, mul,
      _, rfl, p, C, dx, _, _, rfl, h1, c.cl, c.nLow, fl_low, _, rfl, p, C, dx, _, _, rfl, h1, c.cl, c.nBr, fl_br, _, _, rfl, rfl, _, _, rfl, rfl, _, rfl, ite2 (fun h => ?_) (fun h => ?_)⟩
    · have hge : s.low + s.br ≤ (s.low + u - 1) / u * u := of_decide_eq_true h
      have hj2 : j < s.n + 4 := by
        refine Nat.not_le.mp fun q => ?_
        have e0 : s.n + 4 - j = 0 := by omega
        rw [e0, Int.pow_zero] at hu
        rw [← hu, up_one] at hge
        omega
      refine ⟨_, fun σ' H2 h2 => h2, ?_⟩
      refine ⟨_, rfl, _, _, rfl, rfl, _, rfl, _, _, rfl, rfl, ⟨by decide, by decide⟩, ?_⟩
      refine ⟨s.n + 4 - (j + 1), by omega, rfl, j + 1, by omega, rfl, ?_⟩
      have e2 : u / 256 = 256 ^ (s.n + 4 - (j + 1)) := by
        rw [← hu, show s.n + 4 - j = (s.n + 4 - (j + 1)) + 1 by omega, Int.pow_succ, Int.mul_ediv_cancel _ (by decide)]
      show [some (V.ref p), some (V.int ((j : Int) + 1)), some (V.int (u / 256))] = _
      rw [e2]
      rfl
    · have hlt : (s.low + u - 1) / u * u < s.low + s.br := by
        have : ¬ s.low + s.br ≤ (s.low + u - 1) / u * u := fun q => h (decide_eq_true q)
        omega
      refine ⟨_, rfl, p, C, dx, _, _, rfl, h1, c.cl, c.nLow, fl_low, _, rfl, _, _, rfl, rfl, _, _, rfl, rfl, _, rfl, _, _, rfl, rfl, div, _, rfl, (s.low + u - 1) / u, j, rfl, by omega, fun q H2 s12 hq h3 => ?_⟩
      refine k q H2 _ s12 hq h3 (lets_good _ _) ?_ (by rw [lets_length]; omega)
      refine in_lets o hj ?_ ?_
      · rw [hu]; exact up_ge up
      · rw [hu]; exact hlt
end
end K11
namespace K11
open PySem L2
section
variable {P : Program} {w : World} {K : PySem.W.Frag} {mg : Str → Option Value} {base : Heap}
/-! ### Reader.__init__ -/
theorem fr_no {g : Addr} {cc low br room sent : Int} {d : Addr} {m : Str} (h : fnames.contains m = false) : (fl (rtl g cc) low br room sent d).lookup m = none := by
  have q : ∀ x ∈ fnames, ¬ x = m := fun x hx e => by
    subst e
    rw [List.contains_iff_mem.mpr hx] at h
    cases h
  exact fl_no (q _ (by simp [fnames])) (q _ (by simp [fnames])) (q _ (by simp [fnames])) (q _ (by simp [fnames])) (q _ (by simp [fnames])) (rtl_no (q _ (by simp [fnames])) (q _ (by simp [fnames])))
def spRInit (K : PySem.W.Frag) (C : Addr) : Sp := fun vs H Q _ => ∃ (p dx a : Addr) (L : List Int), vs = [.ref p, .ref a] ∧ H p = some (.ins C dx []) ∧ (SqL K H a (L.map V.int) ∨ SqT K H a (L.map V.int)) ∧
  ∀ (d : Addr) (H' : Hp), H d = none → CAt C (FamR K L) H' p d cs0 → Kp1 p H H' → Q .non H'
theorem scRInit : FnScope ["self", "letters", "at"] ["self", "letters"] (defScope sRInit) := ⟨rfl, rfl, rfl, by decide +kernel, rfl, by decide +kernel, by decide +kernel⟩
theorem sqL_kp1 {p : Addr} {H H' : Hp} {C dx : Addr} {fs : List (Str × V)} {a : Addr} {xs : List V} (hp : H p = some (.ins C dx fs)) (k : Kp1 p H H') (h : SqL K H a xs) : SqL K H' a xs := by
  rcases h with (h | ⟨o, h⟩) | h
  · exact .inl (.inl (k _ _ h (ne_of h hp (by intro z; cases z))))
  · exact .inl (.inr ⟨o, k _ _ h (ne_of h hp (by intro z; cases z))⟩)
  · exact .inr h
theorem sqT_kp1 {p : Addr} {H H' : Hp} {C dx : Addr} {fs : List (Str × V)} {a : Addr} {xs : List V} (hp : H p = some (.ins C dx fs)) (k : Kp1 p H H') (h : SqT K H a xs) : SqT K H' a xs := by
  rcases h with (h | ⟨o, h⟩) | h
  · exact .inl (.inl (k _ _ h (ne_of h hp (by intro z; cases z))))
  · exact .inl (.inr ⟨o, k _ _ h (ne_of h hp (by intro z; cases z))⟩)
  · exact .inr h
theorem Kp1.trans {p : Addr} {H H1 H2 : Hp} (a : Kp1 p H H1) (b : Kp1 p H1 H2) : Kp1 p H H2 := fun c o h h1 => b c o (a c o h h1) h1
theorem Kp1.upd {p : Addr} {H H1 : Hp} {o : HO} (a : Kp1 p H H1) : Kp1 p H (L2.upd H1 p o) := fun c u h h1 => by rw [upd_ne h1]; exact a c u h h1
theorem Kp1.same {p : Addr} {H H1 H2 : Hp} (a : Kp1 p H H1) (b : Same H1 H2) : Kp1 p H H2 := fun c o h h1 => b c o (a c o h h1)
theorem ok_rinit {cC C f fi : Addr} {mc : Value} {fd fdi : FuncData} (g : MDef K "__init__" "Reader.__init__" sRInit ["self", "letters"] f fd) (T : Txt K mg) (c : CCls K C) (hC : mg "Coder" = some (.ref cC)) (rC : ClX.CRead K cC mc) (cf : CFn K cC mc "__init__" fi)
    (gi : MDef K "__init__" "Coder.__init__" sCInit ["self"] fi fdi) (FI : FnOk P w K mg base CX0 1 fi fdi ["self"] (spCInit C)) (mS : Met P w K mg base 1 C "sign_at" (spSignAt K C)) : FnOk P w K mg base CX0 2 f fd ["self", "letters"] (spRInit K C) := by
  refine g.F.ok scRInit (fun vs H Q E h => ?_) (fun cdv A outer s H vs Q E hr h => ?_)
  · obtain ⟨p, dx, a, L, rfl, _⟩ := h
    rfl
  · obtain ⟨p, dx, a, L, rfl, hp, hL, k⟩ := h
    obtain ⟨tA, hA⟩ := T.cAhead
    refine ⟨_, pss_cons (ps_expr (pe_clsfn (pe_glob (v := .ref cC) rfl hC rfl) rC cf FI hr gi.b pass0 (pa_cons (pv 0) pa_nil)))
      (pss_cons (ps_fld (pv 0) (pe_callTy call_tuple_of (by rfl) T.zTuple (by decide +kernel) (pa_cons (pv 1) pa_nil)) rfl)
      (pss_cons (ps_fld (pv 0) pe_int rfl)
      (pss_one (ps_for PassesOwn.never rfl (pi_range1 rfl T.zRange (pa_cons (pe_glob (v := .int 4) rfl hA ⟨_, rfl⟩) pa_nil)) (pg_name (i := 2) scRInit.nd rfl (Or.inl rfl))
        (pss_one (ps_fld (pv 0) (pe_op op_add (pe_op op_mul (pe_fld (pv 0) rfl) pe_int) (pe_m mS hr (Nat.le_refl _) (pv 0) (pa_cons (pv 2) pa_nil))) rfl)))))), ?_⟩
    refine ⟨rfl, _, rfl, p, dx, rfl, hp, fun d H1 hd c1 k1 => ?_⟩
    obtain ⟨⟨dy, h1⟩, h2⟩ := id c1
    have npd : p ≠ d := c1.ne
    -- the rest, from the heap in which the tuple stands
    have rest : ∀ (H2 : Hp) (g : Addr), Same H1 H2 → SqT K H2 g (L.map V.int) → ∃ v, ([some (V.ref p), some (V.ref a), none] : L2.St)[0]? = some (some v) ∧ ∃ a' C' dx' fs, v = V.ref a' ∧ H2 a' = some (.ins C' dx' fs) ∧ Cls K C' ∧ NoAttr K C' "signs" ∧ fs.length < 1000 ∧
        tSeq (sFld K (tVar 0) (tC (.int 0)) "code") (tFor (iRng1 (tCons (tC (.int 4)) tNil)) (gName 2) (sFld K (tVar 0) (tOp (rI0 fun i j => .int (i + j)) (tOp (rI CMul fun i j => .int (i * j)) (tFld K (tVar 0) "code") (tC (.int 256))) (tMeth C "sign_at" (spSignAt K C) [] E0 (tVar 0) (tCons (tVar 2) tNil))) "code"))
          { nx := fun _ H' => Q .non H', rt := Q } [some (V.ref p), some (V.ref a), none] (L2.upd H2 a' (.ins C' dx' (putF "signs" (.ref g) fs))) := by
      intro H2 g s12 hT
      have g1 := s12 _ _ h1
      have g2 := s12 _ _ h2
      refine ⟨_, rfl, p, C, dy, _, rfl, g1, c.cl, c.nSigns, by rw [fl_len]; decide, ?_⟩
      rw [fl_new_signs]
      refine fld_by (v := .int 0) rfl upd_same c.cl c.nCode (fl_small (by show 1 ≤ 10; decide)) (fun Q' q' => q') fl_new_code ?_
      rw [upd_upd]
      have kk : Kp1 p H H2 := k1.same s12
      refine ⟨4, rfl, by decide, by decide, for_range (n := 4) (fun i σ H' => ∃ v, σ = [some (.ref p), some (.ref a), v] ∧ H' p = some (.ins C dy (fl (rtl g (cd L i)) 0 4294967296 (rm 0) 0 d)) ∧ Kp1 p H H' ∧ SqT K H' g (L.map V.int) ∧ H' d = some (.dK []))
        ⟨none, rfl, upd_same, kk.upd, sqT_kp1 g1 (fun b o e hb => by rw [upd_ne hb]; exact e) hT, by rw [upd_ne npd.symm]; exact g2⟩ ?_ ?_⟩
      · rintro i σ H' hi ⟨v, rfl, f1, kf, ft, fd0⟩
        refine fld_by (v := .int (cd L (i + 1))) rfl f1 c.cl c.nCode (fl_small (by show 2 ≤ 10; decide)) (fun Q' q' => ?_) fl_put_code ?_
        · refine ⟨_, rfl, p, C, dy, _, _, rfl, f1, c.cl, c.nCode, fl_code, _, _, rfl, rfl, .inr ⟨by decide, by decide⟩, _, rfl, p, dy, _, rfl, f1, fr_no (by decide +kernel), _, rfl, ?_⟩
          refine ⟨p, dy, g, _, L, i, ?_, f1, fl_signs, ft, _, _, rfl, rfl, q'⟩
          show [V.ref p, V.int (0 + (i : Int))] = _
          rw [Int.zero_add]
        · exact ⟨_, rfl, upd_same, kf.upd, sqT_kp1 f1 (fun b o e hb => by rw [upd_ne hb]; exact e) ft, by rw [upd_ne npd.symm]; exact fd0⟩
      · rintro σ H' ⟨v, rfl, f1, kf, ft, fd0⟩
        exact k d H' hd ⟨fun n => rtl g (cd L (n + 4)), ⟨g, rfl, ft⟩, ⟨dy, f1⟩, fd0⟩ kf
    rcases hL with hL | hL
    · refine ⟨_, rfl, a, _, rfl, .inl ⟨sqL_kp1 hp k1 hL, fun l hl => ?_⟩⟩
      exact rest _ l (same_new hl) (.inl (.inl upd_same))
    · refine ⟨_, rfl, a, _, rfl, .inr ⟨sqT_kp1 hp k1 hL, ?_⟩⟩
      exact rest _ a (Same.refl _) (sqT_kp1 hp k1 hL)
end
end K11
namespace K11
open PySem L2
theorem dec_if (L : List Int) (s : St0) (c : Int) : (if decide (s.low + s.br / 2048 * c ≤ cd L (s.n + 4)) = true then (1 : Int) else 0) = dec L s c := by
  unfold dec
  by_cases h : s.low + s.br / 2048 * c ≤ cd L (s.n + 4)
  · rw [if_pos h, if_pos (decide_eq_true h)]
  · rw [if_neg h, if_neg (by rw [decide_eq_false h]; decide)]
section
variable {P : Program} {w : World} {K : PySem.W.Frag} {mg : Str → Option Value} {base : Heap}
/-! ### Reader.read_by, bit, even -/
def spReadBy (K : PySem.W.Frag) (C : Addr) : Sp := fun vs H Q _ => ∃ (p d : Addr) (L : List Int) (s : St0) (c : Int), vs = [.ref p, .int c] ∧ 31 ≤ c ∧ c ≤ 2017 ∧ CAt C (FamR K L) H p d s ∧ Ok s ∧
  ∀ H', CAt C (FamR K L) H' p d (nar s (s.br / 2048 * c) (dec L s c)) → Kp p d H H' → Q (.int (dec L s c)) H'
theorem scReadBy : FnScope ["self", "chance", "part", "value"] ["self", "chance"] (defScope sReadBy) := ⟨rfl, rfl, rfl, by decide +kernel, rfl, by decide +kernel, by decide +kernel⟩
theorem ok_readBy {C f : Addr} {fd : FuncData} (g : MDef K "read_by" "Reader.read_by" sReadBy ["self", "chance"] f fd) (T : Txt K mg) (c : CCls K C) (mNa : ∀ L, Met P w K mg base 3 C "narrowed" (spNar C (FamR K L))) : FnOk P w K mg base CX0 4 f fd ["self", "chance"] (spReadBy K C) := by
  refine g.F.ok scReadBy (fun vs H Q E h => ?_) (fun cdv A outer s H vs Q E hr h => ?_)
  · obtain ⟨p, d, L, s, cc, rfl, _⟩ := h
    rfl
  · obtain ⟨p, d, L, s, cc, rfl, hc1, hc2, c0, o, k⟩ := h
    obtain ⟨Tn, hF, ⟨⟨dx, h1⟩, h2⟩⟩ := id c0
    obtain ⟨gg, rfl, hT⟩ := id hF
    obtain ⟨tW, hW⟩ := T.cWhole
    refine ⟨_, pss_cons (ps_set (i := 2) scReadBy.nd rfl (Or.inl rfl) (pe_op op_mul (pe_op op_fdiv (pe_fld (pv 0) rfl) (pe_glob (v := .int 2048) rfl hW ⟨_, rfl⟩)) (pv 1)))
      (pss_cons (ps_set (i := 3) scReadBy.nd rfl (Or.inl rfl) (pe_callTy call_int1 (by rfl) T.zInt (by decide +kernel) (pa_cons (pe_cmpR op_ge (pe_fld (pv 0) rfl) (pe_op op_add (pe_fld (pv 0) rfl) (pv 2)) (nomark _)) pa_nil)))
      (pss_cons (ps_expr (pe_m (mNa L) hr (by decide) (pv 0) (pa_cons (pv 2) (pa_cons (pv 3) pa_nil)))) (pss_one (ps_ret (pv 3))))), ?_⟩
    refine ⟨_, rfl, p, C, dx, _, _, rfl, h1, c.cl, c.nBr, fl_br, _, _, rfl, rfl, ⟨by decide, by decide⟩, _, rfl, _, _, rfl, rfl, .inr ⟨by omega, by omega⟩, ?_⟩
    refine ⟨_, rfl, p, C, dx, _, _, rfl, h1, c.cl, c.nCode, fl_code, _, rfl, p, C, dx, _, _, rfl, h1, c.cl, c.nLow, fl_low, _, rfl, _, _, rfl, rfl, _, _, rfl, rfl, .inr ⟨_, rfl, ?_⟩⟩
    rw [dec_if]
    refine ⟨_, rfl, p, dx, _, rfl, h1, no_of famR_ok hF (by decide +kernel), _, rfl, _, rfl, ?_⟩
    exact ⟨p, d, s, s.br / 2048 * cc, dec L s cc, rfl, c0, brOf_ge o ⟨hc1, hc2⟩, fun H1 c1 k1 => ⟨_, rfl, k H1 c1 k1⟩⟩
def spRBit (K : PySem.W.Frag) (C : Addr) : Sp := fun vs H Q _ => ∃ (p d : Addr) (L : List Int) (s : St0) (x : Str), vs = [.ref p, .str x] ∧ CAt C (FamR K L) H p d s ∧ Ok s ∧ s.lrn.length ≤ 1000 ∧
  ∀ H', CAt C (FamR K L) H' p d (bitS s x (dec L s (look s.lrn x))) → Kp p d H H' → Q (.int (dec L s (look s.lrn x))) H'
theorem scRBit : FnScope ["self", "name", "chance", "value"] ["self", "name"] (defScope sRBit) := ⟨rfl, rfl, rfl, by decide +kernel, rfl, by decide +kernel, by decide +kernel⟩
theorem ok_rbit {C f : Addr} {fd : FuncData} (g : MDef K "bit" "Reader.bit" sRBit ["self", "name"] f fd) (c : CCls K C) (mCh : Met P w K mg base 1 C "chance_of" (spChance C)) (mR : Met P w K mg base 4 C "read_by" (spReadBy K C))
    (mL : Met P w K mg base 1 C "learn" (spLearn C)) : FnOk P w K mg base CX0 5 f fd ["self", "name"] (spRBit K C) := by
  refine g.F.ok scRBit (fun vs H Q E h => ?_) (fun cdv A outer s H vs Q E hr h => ?_)
  · obtain ⟨p, d, L, s, x, rfl, _⟩ := h
    rfl
  · obtain ⟨p, d, L, s, x, rfl, c0, o, hl, k⟩ := h
    obtain ⟨Tn, hF, ct⟩ := id c0
    obtain ⟨⟨dx, h1⟩, h2⟩ := id ct
    refine ⟨_, pss_cons (ps_set (i := 2) scRBit.nd rfl (Or.inl rfl) (pe_m mCh hr (by decide) (pv 0) (pa_cons (pv 1) pa_nil))) (pss_cons (ps_set (i := 3) scRBit.nd rfl (Or.inl rfl) (pe_m mR hr (by decide) (pv 0) (pa_cons (pv 2) pa_nil)))
      (pss_cons (ps_expr (pe_m mL hr (by decide) (pv 0) (pa_cons (pv 1) (pa_cons (pv 2) (pa_cons (pv 3) pa_nil))))) (pss_one (ps_ret (pv 3))))), ?_⟩
    refine ⟨_, rfl, p, dx, _, rfl, h1, no_of famR_ok hF (by decide +kernel), _, rfl, p, d, _, s, x, rfl, ct, ?_⟩
    have hc := look_mem (k := x) o.ch
    refine ⟨_, rfl, p, dx, _, rfl, h1, no_of famR_ok hF (by decide +kernel), _, rfl, p, d, L, s, look s.lrn x, rfl, hc.1, hc.2, c0, o, fun H1 c1 k1 => ?_⟩
    obtain ⟨Tm, hF1, c1⟩ := c1
    obtain ⟨⟨dy, g1⟩, g2⟩ := id c1
    refine ⟨_, rfl, p, dy, _, rfl, g1, no_of famR_ok hF1 (by decide +kernel), _, rfl, _, rfl, _, rfl, ?_⟩
    have el : (nar s (s.br / 2048 * look s.lrn x) (dec L s (look s.lrn x))).lrn = s.lrn := nar_lrn _ _ _
    refine ⟨p, d, _, _, x, look s.lrn x, _, rfl, c1, by rw [el]; exact hl, fun H2 c2 k2 => ?_⟩
    refine ⟨_, rfl, k H2 ⟨Tm, famR_ok.keep hF1 (kp_rd k2 g1 g2), ?_⟩ (k1.trans k2)⟩
    rw [el] at c2
    exact c2
def spREven (K : PySem.W.Frag) (C : Addr) : Sp := fun vs H Q _ => ∃ (p d : Addr) (L : List Int) (s : St0), vs = [.ref p] ∧ CAt C (FamR K L) H p d s ∧ Ok s ∧
  ∀ H', CAt C (FamR K L) H' p d (evS s (dec L s 1024)) → Kp p d H H' → Q (.int (dec L s 1024)) H'
theorem scREven : FnScope ["self"] ["self"] (defScope sREven) := ⟨rfl, rfl, rfl, by decide +kernel, rfl, by decide +kernel, by decide +kernel⟩
theorem ok_reven {C f : Addr} {fd : FuncData} (g : MDef K "even" "Reader.even" sREven ["self"] f fd) (T : Txt K mg) (c : CCls K C) (mR : Met P w K mg base 4 C "read_by" (spReadBy K C)) : FnOk P w K mg base CX0 5 f fd ["self"] (spREven K C) := by
  refine g.F.ok scREven (fun vs H Q E h => ?_) (fun cdv A outer s H vs Q E hr h => ?_)
  · obtain ⟨p, d, L, s, rfl, _⟩ := h
    rfl
  · obtain ⟨p, d, L, s, rfl, c0, o, k⟩ := h
    obtain ⟨dx, fs, h1, h2, gn⟩ := c0.ob famR_ok
    obtain ⟨tE, hE⟩ := T.cEven
    refine ⟨_, pss_one (ps_ret (pe_m mR hr (by decide) (pv 0) (pa_cons (pe_glob (v := .int 1024) rfl hE ⟨_, rfl⟩) pa_nil))), ?_⟩
    exact ⟨_, rfl, p, dx, fs, rfl, h1, gn _ (by decide +kernel), p, d, L, s, 1024, rfl, by decide, by decide, c0, o, k⟩
/-! ### Reader.number -/
def spRNum (K : PySem.W.Frag) (C : Addr) : Sp := fun vs H Q _ => ∃ (p d : Addr) (L : List Int) (s : St0) (x : Str) (m : Nat), vs = [.ref p, .str x, .int (m : Int)] ∧ m ≤ 8190 ∧ x.length ≤ 20 ∧ CAt C (FamR K L) H p d s ∧ Ok s ∧ s.lrn.length ≤ 900 ∧
  ∀ H', CAt C (FamR K L) H' p d (rdNum L (nk x) m s).2 → Kp p d H H' → Q (.int (rdNum L (nk x) m s).1) H'
theorem scRNum : FnScope ["self", "name", "most", "greatest", "many", "found", "at"] ["self", "name", "most"] (defScope sRNum) := ⟨rfl, rfl, rfl, by decide +kernel, rfl, by decide +kernel, by decide +kernel⟩
theorem ok_rnum {C f : Addr} {fd : FuncData} (g : MDef K "number" "Reader.number" sRNum ["self", "name", "most"] f fd) (T : Txt K mg) (c : CCls K C) (cW : Cal P w K mg base 1 "is_whole" spWhole) (cS : Cal P w K mg base 1 "signs_in" spSigns)
    (mB : Met P w K mg base 5 C "bit" (spRBit K C)) (mE : Met P w K mg base 5 C "even" (spREven K C)) : FnOk P w K mg base CX0 6 f fd ["self", "name", "most"] (spRNum K C) := by
  refine g.F.ok scRNum (fun vs H Q E h => ?_) (fun cdv A outer s H vs Q E hr h => ?_)
  · obtain ⟨p, d, L, s, x, m, rfl, _⟩ := h
    rfl
  · obtain ⟨p, d, L, s, x, m, rfl, hm, hx, c0, o, hl, k⟩ := h
    obtain ⟨tM, hM⟩ := T.cMost
    have hg12 := log12 hm
    refine ⟨_, pss_cons (ps_if (pt_not (pt_val (pe_g cW hr (by decide) (pa_cons (pv 2) (pa_cons pe_int (pa_cons (pe_glob (v := .int 8190) rfl hM ⟨_, rfl⟩) pa_nil)))))) (pss_one ps_never) pss_nil)
      (pss_cons (ps_par (i := 3) (j := 4) (by rfl) scRNum.nd rfl rfl (by decide) rfl rfl (pa_cons (pe_g cS hr (by decide) (pa_cons (pe_op op_add (pv 2) pe_int) pa_nil)) (pa_cons pe_int pa_nil)) (by rfl))
      (pss_cons (ps_while PassesOwn.never (PW.pt (pw_and (pt_cmpR op_lt (pv 4) (pv 3) (nomark _)) (pw_and1 (pt_cmpR op_eq (pe_m mB hr (by decide) (pv 0) (pa_cons (pe_joined (PJ.cons (pe_fmt (pv 1)) (PJ.cons pe_str (PJ.cons (pe_fmt (pv 4)) PJ.nil)))) pa_nil)) pe_int (nomark _)))))
        (pss_one (ps_aug (i := 4) scRNum.nd rfl (Or.inl rfl) pe_int ip_add)))
      (pss_cons (ps_set (i := 5) scRNum.nd rfl (Or.inl rfl) pe_int)
      (pss_cons (ps_for PassesOwn.never rfl (pi_range1 rfl T.zRange (pa_cons (pv 4) pa_nil)) (pg_name (i := 6) scRNum.nd rfl (Or.inl rfl))
        (pss_one (ps_set (i := 5) scRNum.nd rfl (Or.inl rfl) (pe_op op_add (pe_op op_mul pe_int (pv 5)) (pe_m0 mE hr (by decide) (pv 0))))))
      (pss_one (ps_ret (pe_callB (call_min2 rfl) (by rfl) T.zMin (by decide +kernel) (pa_cons (pe_op op_sub (pv 5) pe_int) (pa_cons (pv 2) pa_nil))))))))), ?_⟩
    refine ⟨_, rfl, _, _, _, rfl, _, rfl, ?_⟩
    rw [show (decide ((0 : Int) ≤ (m : Int)) && decide ((m : Int) ≤ 8190)) = true by rw [decide_eq_true (by omega), decide_eq_true (by omega)]; rfl]
    refine iteF ?_
    refine ⟨_, rfl, _, _, rfl, rfl, _, rfl, ?_⟩
    rw [show ((m : Int) + 1).toNat = m + 1 by omega]
    refine ⟨_, _, rfl, ?_⟩
    generalize hg : (m + 1).log2 = gr at *
    -- behind the while
    have last : ∀ (H1 : Hp), CAt C (FamR K L) H1 p d (rdK L (nk x) gr 0 s).2 → Ok (rdK L (nk x) gr 0 s).2 → Kp p d H H1 →
        tSeq (tAsg (tC (.int 1)) (gName 5)) (tSeq (tFor (iRng1 (tCons (tVar 4) tNil)) (gName 6) (tAsg (tOp (rI0 fun i j => .int (i + j)) (tOp (rI CMul fun i j => .int (i * j)) (tC (.int 2)) (tVar 5)) (tMeth C "even" (spREven K C) [] E0 (tVar 0) tNil)) (gName 5)))
          (tRet (tCB (fun xs H Q => ∃ i j, xs = [.int i, .int j] ∧ Q (.int (if j < i then j else i)) H) (tCons (tOp (rI0 fun i j => .int (i - j)) (tVar 5) (tC (.int 1))) (tCons (tVar 2) tNil)))))
          { nx := fun _ H' => Q .non H', rt := Q } [some (.ref p), some (.str x), some (.int (m : Int)), some (.int (gr : Int)), some (.int ((rdK L (nk x) gr 0 s).1 : Int)), none, none] H1 := by
      intro H1 c1 o1 k1
      have hR := rdK_le (L := L) (f := nk x) gr 0 s
      have hN : rdNum L (nk x) m s = (min ((eS L (rdK L (nk x) gr 0 s).1 (rdK L (nk x) gr 0 s).2).1 - 1) (m : Int), (eS L (rdK L (nk x) gr 0 s).1 (rdK L (nk x) gr 0 s).2).2) := by
        unfold rdNum
        rw [hg]
      generalize rdK L (nk x) gr 0 s = R at *
      obtain ⟨j, s1⟩ := R
      refine ⟨_, rfl, (j : Int), rfl, by show -(2 ^ 62) ≤ (j : Int); omega, by show (j : Int) < 2 ^ 62; omega, for_range (n := j) (fun i σ H' => ∃ v, σ = [some (.ref p), some (.str x), some (.int (m : Int)), some (.int (gr : Int)), some (.int (j : Int)), some (.int (eS L i s1).1), v] ∧
        CAt C (FamR K L) H' p d (eS L i s1).2 ∧ Kp p d H H') ⟨none, rfl, c1, k1⟩ ?_ ?_⟩
      · rintro i σ H' hi ⟨v, rfl, c2, k2⟩
        obtain ⟨dz, fs, g1, g2, gn⟩ := c2.ob famR_ok
        refine ⟨_, rfl, _, _, rfl, rfl, .inl ⟨by decide, by decide⟩, _, rfl, p, dz, fs, rfl, g1, gn _ (by decide +kernel), ?_⟩
        refine ⟨p, d, L, _, rfl, c2, eS_ok o1 i, fun H3 c3 k3 => ⟨_, _, rfl, rfl, _, rfl, c3, k2.trans k3⟩⟩
      · rintro σ H' ⟨v, rfl, c2, k2⟩
        refine ⟨_, rfl, _, _, rfl, rfl, _, rfl, _, _, rfl, ?_⟩
        have := k H' (by rw [hN]; exact c2) k2
        rw [hN] at this
        have e : (if (m : Int) < (eS L j s1).1 - 1 then (m : Int) else (eS L j s1).1 - 1) = min ((eS L j s1).1 - 1) (m : Int) := by
          split <;> omega
        rw [e]
        exact this
    refine ⟨fun q σ H' => ∃ (j : Nat) (s1 : St0), σ = [some (.ref p), some (.str x), some (.int (m : Int)), some (.int (gr : Int)), some (.int (j : Int)), none, none] ∧ j ≤ gr ∧ q = gr - j ∧ CAt C (FamR K L) H' p d s1 ∧ Ok s1 ∧ Kp p d H H' ∧ s1.lrn.length ≤ s.lrn.length + j ∧
      rdK L (nk x) gr 0 s = rdK L (nk x) (gr - j) j s1, ⟨gr, 0, s, rfl, Nat.zero_le _, rfl, c0, o, Kp.refl p d H, by omega, rfl⟩, ?_⟩
    rintro q σ H' ⟨j, s1, rfl, hj, rfl, c1, o1, k1, l1, e1⟩
    refine ⟨_, rfl, _, rfl, _, _, rfl, rfl, _, rfl, ite2 (fun h => ?_) (fun h => ?_)⟩
    · have hlt : j < gr := by have := of_decide_eq_true h; omega
      obtain ⟨dz, fs, g1, g2, gn⟩ := c1.ob famR_ok
      obtain ⟨dd, hdd⟩ : ∃ dd, gr - j = dd + 1 := ⟨gr - j - 1, by omega⟩
      have e2 : rdK L (nk x) gr 0 s = (if dec L s1 (look s1.lrn (nk x j)) = 1 then rdK L (nk x) dd (j + 1) (bitS s1 (nk x j) 1) else (j, bitS s1 (nk x j) (dec L s1 (look s1.lrn (nk x j))))) := by
        rw [e1, hdd]; rfl
      refine ⟨_, rfl, p, dz, fs, rfl, g1, gn _ (by decide +kernel), ?_⟩
      refine joined_args (k := j) rfl rfl hx (by omega) ?_
      refine ⟨p, d, L, s1, nk x j, rfl, c1, o1, by omega, fun H2 c2 k2 => ?_⟩
      refine ⟨rfl, _, rfl, ite2 (fun h1 => ?_) (fun h1 => ?_)⟩
      · have hv : dec L s1 (look s1.lrn (nk x j)) = 1 := V.int.inj (of_decide_eq_true h1)
        rw [if_pos hv] at e2
        rw [hv] at c2
        refine ⟨_, fun σ' H3 h3 => h3, ?_⟩
        refine ⟨_, rfl, _, _, rfl, rfl, ?_⟩
        refine ⟨gr - (j + 1), by omega, j + 1, bitS s1 (nk x j) 1, rfl, hlt, rfl, c2, bit_ok o1 _ _, k1.trans k2, ?_, ?_⟩
        · have := bit_len s1 (nk x j) 1; omega
        · rw [e2, show gr - (j + 1) = dd by omega]
      · have hv : ¬ dec L s1 (look s1.lrn (nk x j)) = 1 := fun q => h1 (decide_eq_true (by rw [q]))
        rw [if_neg hv] at e2
        have := last H2 (by rw [e2]; exact c2) (by rw [e2]; exact bit_ok o1 _ _) (k1.trans k2)
        rw [e2] at this
        exact this
    · have he : j = gr := by
        have : ¬ (j : Int) < (gr : Int) := fun q => h (decide_eq_true q)
        omega
      subst he
      rw [Nat.sub_self] at e1
      have e2 : rdK L (nk x) j 0 s = (j, s1) := e1
      have := last H' (by rw [e2]; exact c1) (by rw [e2]; exact o1) k1
      rw [e2] at this
      exact this
end
end K11
namespace K11
open PySem L2
/-- a dict made over a list that stays: DI by the turn and the heap -/
theorem dc_list {K : PySem.W.Frag} {a : Addr} {xs : List V} {g : TG} {tt : TT} {tk tv : TE} {vs : List Nat} {σ : L2.St} {H1 : Hp} {D : Addr} {Qd : Hp → Prop} (DI : Nat → Hp → Prop) (h0 : DI 0 (upd H1 D (.dK [])))
    (hl : ∀ i H, DI i H → SqL K H a xs)
    (hs : ∀ i x H, xs[i]? = some x → DI i H → g x (wipe σ vs) H fun σ2 H2 => wipe σ2 vs = wipe σ vs ∧ tt σ2 H2 fun b H3 => if b = true then tk σ2 H3 fun y H4 => tv σ2 H4 fun z H5 => ∃ kvs k, y = kV k ∧ H5 D = some (.dK kvs) ∧ kvs.length < sizeLine ∧ DI (i + 1) (upd H5 D (.dK (putK kvs k z))) else DI (i + 1) H3)
    (hd : ∀ H, DI xs.length H → Qd H) :
    ∃ W : Nat → Nat → Hp → Prop, (∃ m, W 0 m (upd H1 D (.dK []))) ∧ ∀ i m H, W i m H → ((Itl K a).stop i H ∧ Qd H) ∨ ((Itl K a).go i H ∧ ∃ Nx : Hp → Prop, (∀ H', Nx H' → ∃ m', m' < m ∧ W (i + 1) m' H') ∧
      ∀ x H', (Itl K a).yld i H x H' → g x (wipe σ vs) H' fun σ2 H2 => wipe σ2 vs = wipe σ vs ∧ tt σ2 H2 fun b H3 => if b = true then tk σ2 H3 fun y H4 => tv σ2 H4 fun z H5 => ∃ kvs k, y = kV k ∧ H5 D = some (.dK kvs) ∧ kvs.length < sizeLine ∧ Nx (upd H5 D (.dK (putK kvs k z))) else Nx H3) := by
  have wl := walk_list (K := K) (a := a) (xs := xs)
  refine ⟨fun i m H => i ≤ xs.length ∧ m + i = xs.length ∧ DI i H, ⟨xs.length, Nat.zero_le _, rfl, h0⟩, fun i m H ⟨hi, hm, p⟩ => ?_⟩
  have q := hl i H p
  rcases Nat.lt_or_ge i xs.length with hlt | hge
  · refine .inr ⟨wl.goes i H hlt q, DI (i + 1), fun H' p' => ⟨xs.length - (i + 1), by omega, hlt, by omega, p'⟩, fun x H' y => ?_⟩
    obtain ⟨rfl, hx⟩ := wl.yields i H x H' hlt q y
    exact hs i x _ hx p
  · obtain rfl : i = xs.length := by omega
    exact .inl ⟨wl.stops H q, hd H p⟩
/-- the chances of the names ys -/
def srt (ys : List Str) (l : List (Str × Int)) : List (Str × Int) := ys.map fun y => (y, look l y)
theorem names_len (l : List (Str × Int)) : (names l).length = l.length := List.length_map ..
theorem kvs_keys (l : List (Str × Int)) : (kvs l).map (·.1) = (names l).map Sum.inr := by
  unfold kvs names
  rw [List.map_map, List.map_map]
  rfl
theorem look_get {l : List (Str × Int)} {y : Str} (h : y ∈ names l) : valV (kvs l) (Sum.inr y : Key) = some (.int (look l y)) := by
  rw [kvs_val]
  unfold look
  cases e : l.find? fun p => decide (p.1 = y) with
  | some p => rfl
  | none =>
    obtain ⟨p, hp, rfl⟩ := List.mem_map.mp h
    have := List.find?_eq_none.mp e p hp
    exact absurd (decide_eq_true rfl) this
theorem put_new {l : List (Str × Int)} {k : Str} (h : k ∉ names l) (c : Int) : put l k c = l ++ [(k, c)] := by
  unfold put
  rw [if_neg]
  intro e
  obtain ⟨p, hp, e⟩ := List.any_eq_true.mp e
  exact h (List.mem_map.mpr ⟨p, hp, of_decide_eq_true e⟩)
theorem srt_names (ys : List Str) (l : List (Str × Int)) : names (srt ys l) = ys := by
  unfold names srt
  rw [List.map_map]
  exact (List.map_congr_left fun _ _ => rfl).trans (List.map_id _)
theorem srt_take {ys : List Str} {l : List (Str × Int)} {i : Nat} {y : Str} (nd : ys.Nodup) (h : ys[i]? = some y) : put (srt (ys.take i) l) y (look l y) = srt (ys.take (i + 1)) l := by
  have e : ys.take (i + 1) = ys.take i ++ [y] := by rw [List.take_add_one, h]; rfl
  have hn : y ∉ names (srt (ys.take i) l) := by
    rw [srt_names]
    intro hm
    have nd' : (ys.take (i + 1)).Nodup := List.Sublist.nodup (List.take_sublist _ _) nd
    rw [e] at nd'
    exact (List.nodup_append.mp nd').2.2 y hm y (List.mem_singleton.mpr rfl) rfl
  rw [put_new hn, e]
  unfold srt
  rw [List.map_append]
  rfl
section
variable {P : Program} {w : World} {K : PySem.W.Frag} {mg : Str → Option Value} {base : Heap}
/-! ### chances -/
def spChances (C : Addr) : Sp := fun vs H Q _ => ∃ (p d : Addr) (T : List (Str × V)) (s : St0), vs = [.ref p] ∧ CodAt C T H p d s ∧ (names s.lrn).Nodup ∧ s.lrn.length < 64 ∧
  ∀ (q : Addr) (H' : Hp) (ys : List Str), Same H H' → H q = none → ys.Perm (names s.lrn) → PyProof.Rows.sortedS ys = true → H' q = some (.dK (kvs (srt ys s.lrn))) → Q (.ref q) H'
theorem scChances : FnScope ["self", "name"] ["self"] (defScope sChances) := ⟨rfl, rfl, rfl, by decide +kernel, rfl, by decide +kernel, by decide +kernel⟩
theorem ok_chances {C f : Addr} {fd : FuncData} (g : MDef K "chances" "Coder.chances" sChances ["self"] f fd) (T : Txt K mg) (c : CCls K C) : FnOk P w K mg base CX0 1 f fd ["self"] (spChances C) := by
  refine g.F.ok scChances (fun vs H Q E h => ?_) (fun cdv A outer s H vs Q E hr h => ?_)
  · obtain ⟨p, d, T, s, rfl, _⟩ := h
    rfl
  · obtain ⟨p, d, Tl, s, rfl, ⟨⟨dx, h1⟩, h2⟩, nd, h64, k⟩ := h
    refine ⟨_, pss_one (ps_ret (pe_dc (own := [("name", 1)]) (g := gName 1) (tt := tYes) (tk := tVar 1) (tv := tDGet (tFld K (tVar 0) "learned_ones") (tVar 1)) rfl scChances.nd (pi_list (pe_callB (call_sortedD rfl) (by rfl) T.zSorted (by decide +kernel) (pa_cons (pe_fld (pv 0) rfl) pa_nil)))
      (blkOk_by (own := [("name", 1)]) (N := ["self", "name"]) (sc := defScope sChances) (by decide +kernel)) (fun _ _ _ _ _ => pg_name (i := 1) scChances.nd rfl (Or.inl rfl)) (fun _ _ _ _ _ => pts_nil) (fun _ _ _ _ _ => pv 1)
      (fun _ _ _ _ _ => pe_dget (hu_of hr) (pe_fld (pv 0) rfl) (pv 1) (fun _ _ => rfl)))), ?_⟩
    refine ⟨_, rfl, p, C, dx, _, _, rfl, h1, c.cl, c.nLrn, fl_lrn, d, _, names s.lrn, rfl, .of h2, kvs_keys _, by rw [names_len]; exact h64, fun ys a hp hs ha => ?_⟩
    have ndy : ys.Nodup := hp.nodup_iff.mpr nd
    refine ⟨a, rfl, ⟨_, SqL.of upd_same⟩, fun D hD => ?_⟩
    refine dc_list (K := K) (a := a) (xs := ys.map V.str) (fun i H' => Same (upd H a (.lst (ys.map V.str))) H' ∧ H' D = some (.dK (kvs (srt (ys.take i) s.lrn)))) ⟨same_new hD, upd_same⟩ (fun i H' ⟨s1, _⟩ => SqL.of (s1 _ _ upd_same)) ?_ ?_
    · rintro i x H' hx ⟨s1, hd1⟩
      rw [List.getElem?_map] at hx
      cases hy : ys[i]? with
      | none => rw [hy] at hx; cases hx
      | some y =>
        rw [hy] at hx
        cases hx
        have g1 := s1 p _ (same_new ha p _ h1)
        have g2 := s1 d _ (same_new ha d _ h2)
        have hm : y ∈ names s.lrn := hp.mem_iff.mp (List.mem_of_getElem? hy)
        refine ⟨rfl, _, rfl, _, rfl, p, C, dx, _, _, rfl, g1, c.cl, c.nLrn, fl_lrn, _, rfl, d, .int (look s.lrn y), rfl, ?_, ?_⟩
        · have := DGet.k (k := Sum.inr y) g2
          rw [look_get hm] at this
          exact this
        refine ⟨_, Sum.inr y, rfl, hd1, ?_, fun b o e => ?_, ?_⟩
        · rw [kvs_len]
          unfold srt
          rw [List.length_map, List.length_take]
          have := hp.length_eq
          rw [names_len] at this
          exact small1000 (by omega)
        · have nb : b ≠ D := ne_of_none e hD
          rw [upd_ne nb]
          exact s1 b o e
        · rw [upd_same, kvs_put, srt_take ndy hy]
    · rintro H' ⟨s1, hd1⟩
      rw [List.length_map, List.take_of_length_le (Nat.le_refl _)] at hd1
      exact k D H' ys ((same_new ha).trans s1) ((same_new ha).free hD) hp hs hd1
end
end K11
namespace K11
open PySem L2
/-! ### sorted of a list of pairs of a text and a number -/
def encSI (b : Str × Int) : PyData := .tuple [.str b.1, .int b.2]
def PairAt (H : Hp) (t : Addr) (b : Str × Int) : Prop := H t = some (.tup [.str b.1, .int b.2])
def rSortSI (K : PySem.W.Frag) : List V → Hp → VK → Prop := fun vs H Q => ∃ (a : Addr) (ts : List Addr) (bs : List (Str × Int)), vs = [.ref a] ∧ SqL K H a (ts.map V.ref) ∧ Paired (PairAt H) ts bs ∧
  ∀ (p : Addr) (ts' : List Addr), Paired (PairAt H) ts' (bs.mergeSort (PySem.W.dataLe false encSI)) → H p = none → Q (.ref p) (upd H p (.lst (ts'.map V.ref)))
theorem each_of {H : Hp} : ∀ {ts : List Addr} {bs : List (Str × Int)} {its : List Value}, Paired (PairAt H) ts bs → Vals (ts.map V.ref) its → PySem.W.EachIs (fun (v : Value) (b : Str × Int) => ∃ t, v = .ref t ∧ PairAt H t b) its bs
  | _, _, _, .nil, .nil => .nil
  | _, _, _, .cons h r, .cons e t => .cons ⟨_, e, h⟩ (each_of r t)
theorem each_back {H : Hp} : ∀ {out : List Value} {bs : List (Str × Int)}, PySem.W.EachIs (fun (v : Value) (b : Str × Int) => ∃ t, v = .ref t ∧ PairAt H t b) out bs → ∃ ts : List Addr, Vals (ts.map V.ref) out ∧ Paired (PairAt H) ts bs
  | _, _, .nil => ⟨[], .nil, .nil⟩
  | _, _, .cons ⟨t, e, h⟩ r => by
    obtain ⟨ts, h1, h2⟩ := each_back r
    exact ⟨t :: ts, .cons e h1, .cons h h2⟩
theorem alike_si (b c : Str × Int) : PySem.W.alike (encSI b) (encSI c) = true := by simp [encSI, PySem.W.alike, PySem.W.alikeAll]
theorem cr_sortedSI {X : Cx} (hu : X.A.units + 64 < cLine) : CallR X (.builtin "sorted") (rSortSI X.K) := by
  intro pins s σ H vs us Q I r h
  obtain ⟨a, ts, bs, rfl, hs, hp, q⟩ := h
  obtain ⟨its, rv, hl, hz⟩ := I.list hs
  rw [Vals.ref1 r]
  have e := each_of hp rv
  have hlen : its.length = bs.length := e.length
  have hlv := rv.length
  have er : PySem.W.EachIs (fun (v : Value) (b : Str × Int) => ∃ as, Reads s.heap v (encSI b) as) its bs := e.mono fun v b ⟨t, hv, ht⟩ =>
    Dp.reads I (encSI b) (.ref t) v (.tup (.inl (.inl ht)) (.cons (.str _) (.cons (.int _) .nil))) hv
  refine PySem.W.sorted_data hl.isList e er (PySem.W.AllAlike.of alike_si) (PySem.W.Sortable.tuples fun b => ⟨_, _, rfl⟩) (by omega) (fun b _ => ?_) fun out ho eo => ?_
  · have : (encSI b).depth = 1 := by simp [encSI, PyData.depth, PyData.depthAll]
    omega
  · obtain ⟨ts', h1, h2⟩ := each_back eo
    obtain ⟨c, hc⟩ := PyProof.Rows.sortedAll_at s.heap its out.toArray
    have h3 := h1.length
    exact ⟨.ref (s.heap.objs.size + 1), upd H (s.heap.objs.size + 1) (.lst (ts'.map V.ref)), I.laid (t' := s.toks) (fun _ _ => PyProof.Rows.sortedAll_old) (Nat.le_succ _) ⟨by omega, out, c, h1, hc⟩, rfl, q _ ts' h2 (I.hok.fresh (Nat.le_succ _))⟩
/-! ### the order of the names -/
abbrev Up (a b : Str) : Prop := a.cps.toList ≤ b.cps.toList
theorem up_trans {a b c : Str} (h1 : Up a b) (h2 : Up b c) : Up a c := List.le_trans h1 h2
theorem up_antisymm {a b : Str} (h1 : Up a b) (h2 : Up b a) : a = b := PySem.W.str_of_cps (List.le_antisymm h1 h2)
theorem rising_up : ∀ {ys : List Str} {p : Str}, PyProof.Rows.risingS p ys = true → (p :: ys).Pairwise Up
  | [], p, _ => List.pairwise_singleton _ _
  | x :: r, p, h => by
    have h' : (!PySem.Spec.ltCps x.cps.toList p.cps.toList && PyProof.Rows.risingS x r) = true := h
    rw [Bool.and_eq_true] at h'
    have ih := rising_up h'.2
    have hu : Up p x := by
      have h1 := h'.1
      rw [PyProof.Rows.ltCps_eq] at h1
      exact List.not_lt.mp fun q => by rw [decide_eq_true q] at h1; cases h1
    refine List.pairwise_cons.mpr ⟨fun y hy => ?_, ih⟩
    rcases List.mem_cons.mp hy with rfl | hy
    · exact hu
    · exact up_trans hu ((List.pairwise_cons.mp ih).1 y hy)
theorem sorted_up {ys : List Str} (h : PyProof.Rows.sortedS ys = true) : ys.Pairwise Up := by
  cases ys with
  | nil => exact List.Pairwise.nil
  | cons x r => exact rising_up h
/-- two rows of the same names, both rising: the same -/
theorem rows_one {xs ys : List Str} (h : xs.Perm ys) (hx : xs.Pairwise Up) (hy : ys.Pairwise Up) : xs = ys :=
  List.Perm.eq_of_pairwise (fun a b _ _ h1 h2 => up_antisymm h1 h2) hx hy h
theorem le_up {b c : Str × Int} (h : PySem.W.dataLe false encSI b c = true) : Up b.1 c.1 := by
  have h' : (!PySem.W.dataLt (encSI c) (encSI b)) = true := h
  unfold encSI at h'
  rw [PySem.W.dataLt_pair (by simp [PySem.W.alike]) (by simp [PySem.W.alike]), PySem.W.dataLt_str] at h'
  refine List.not_lt.mp fun q => ?_
  have hne : ¬ c.1 = b.1 := fun e => by rw [e] at q; exact List.lt_irrefl _ q
  rw [if_neg (by simp only [PyData.eqv, beq_iff_eq]; exact hne), decide_eq_true q] at h'
  cases h'
theorem srt_perm {l : List (Str × Int)} (nd : (names l).Nodup) {ys : List Str} (h : ys.Perm (names l)) : (srt ys l).Perm l := by
  have e : (names l).map (fun y => (y, look l y)) = l := by
    unfold names
    rw [List.map_map]
    refine (List.map_congr_left fun p hp => ?_).trans (List.map_id _)
    show (p.1, look l p.1) = p
    have : look l p.1 = p.2 := by
      unfold look
      cases e : l.find? fun q => decide (q.1 = p.1) with
      | none => exact absurd (decide_eq_true rfl) (List.find?_eq_none.mp e p hp)
      | some q =>
        have hq := List.mem_of_find?_eq_some e
        have h1 : q.1 = p.1 := by
          have := List.find?_some e
          exact of_decide_eq_true this
        obtain ⟨i, hi⟩ := List.getElem?_of_mem hp
        obtain ⟨j, hj⟩ := List.getElem?_of_mem hq
        have n1 : (names l)[i]? = some p.1 := by unfold names; rw [List.getElem?_map, hi]; rfl
        have n2 : (names l)[j]? = some p.1 := by unfold names; rw [List.getElem?_map, hj, ← h1]; rfl
        have := nd_ix nd n1 n2
        subst this
        rw [hi] at hj
        cases hj
        rfl
    rw [this]
  have := h.map fun y => (y, look l y)
  rw [e] at this
  exact this
/-- the pairs sorted are the chances of the names sorted -/
theorem pairs_sorted {l : List (Str × Int)} (nd : (names l).Nodup) {ys : List Str} (h : ys.Perm (names l)) (hs : PyProof.Rows.sortedS ys = true) : l.mergeSort (PySem.W.dataLe false encSI) = srt ys l := by
  refine List.Perm.eq_of_pairwise (le := fun b c => Up b.1 c.1) (fun a b ha hb h1 h2 => ?_) ?_ ?_ ((List.mergeSort_perm l _).trans (srt_perm nd h).symm)
  · have e : a.1 = b.1 := up_antisymm h1 h2
    have ha' := (List.mergeSort_perm l _).mem_iff.mp ha
    have hb' := (srt_perm nd h).mem_iff.mp hb
    obtain ⟨i, hi⟩ := List.getElem?_of_mem ha'
    obtain ⟨j, hj⟩ := List.getElem?_of_mem hb'
    have n1 : (names l)[i]? = some a.1 := by unfold names; rw [List.getElem?_map, hi]; rfl
    have n2 : (names l)[j]? = some a.1 := by unfold names; rw [List.getElem?_map, hj, e]; rfl
    have := nd_ix nd n1 n2
    subst this
    rw [hi] at hj
    exact Option.some.inj hj
  · exact (PySem.W.sort_pairwise (PySem.W.sortLe_total _ _ _) l).imp fun h => le_up h
  · unfold srt
    exact List.pairwise_map.mpr ((sorted_up hs).imp fun h => h)
/-! ### data that may be compared -/
theorem lay_pairs : ∀ {l : List (Str × Int)}, (∀ p ∈ l, PyData.strOk p.1 = true) → PyData.canLayAll0 (l.map encSI) = true
  | [], _ => rfl
  | p :: r, h => by
    have h1 := h p (List.mem_cons_self ..)
    have ih := lay_pairs fun q hq => h q (List.mem_cons_of_mem _ hq)
    rw [List.map_cons, PyData.canLayAll0, ih]
    simp [encSI, PyData.canLay0, PyData.canLayAll0, h1]
theorem depth_pairs : ∀ l : List (Str × Int), PyData.depthAll (l.map encSI) ≤ 1
  | [] => Nat.zero_le _
  | p :: r => by
    have ih := depth_pairs r
    rw [List.map_cons, PyData.depthAll]
    have : (encSI p).depth = 1 := by simp [encSI, PyData.depth, PyData.depthAll]
    omega
theorem shaped_pairs {l : List (Str × Int)} (h : ∀ p ∈ l, PyData.strOk p.1 = true) : PySem.SeqAt.shaped (.list (l.map encSI)) = true := by
  unfold PySem.SeqAt.shaped
  have h1 := lay_pairs h
  have h2 := depth_pairs l
  rw [PyData.canLay0, h1, decide_eq_true (by rw [PyData.depth]; omega)]
  rfl
theorem eqv_pairs {l : List (Str × Int)} (h : ∀ p ∈ l, PyData.strOk p.1 = true) : PyData.eqv (.list (l.map encSI)) (.list (l.map encSI)) = true :=
  PySem.SeqAt.eqv_refl _ (by rw [PyData.canLay0]; exact lay_pairs h)
theorem dp_pairs {K : PySem.W.Frag} {H : Hp} : ∀ {ts : List Addr} {l : List (Str × Int)}, Paired (PairAt H) ts l → DpAll K H (ts.map V.ref) (l.map encSI)
  | _, _, .nil => .nil
  | _, _, .cons h r => .cons (.tup (.inl (.inl h)) (.cons (.str _) (.cons (.int _) .nil))) (dp_pairs r)
theorem lay_strs : ∀ {l : List Str}, (∀ x ∈ l, PyData.strOk x = true) → PyData.canLayAll0 (l.map PyData.str) = true
  | [], _ => rfl
  | x :: r, h => by
    have h1 := h x (List.mem_cons_self ..)
    have ih := lay_strs fun q hq => h q (List.mem_cons_of_mem _ hq)
    rw [List.map_cons, PyData.canLayAll0, ih, PyData.canLay0, h1]
    rfl
theorem depth_strs : ∀ l : List Str, PyData.depthAll (l.map PyData.str) = 0
  | [] => rfl
  | x :: r => by
    rw [List.map_cons, PyData.depthAll, depth_strs r]
    simp [PyData.depth]
theorem shaped_strs {l : List Str} (h : ∀ x ∈ l, PyData.strOk x = true) : PySem.SeqAt.shaped (.list (l.map PyData.str)) = true := by
  unfold PySem.SeqAt.shaped
  rw [PyData.canLay0, lay_strs h, decide_eq_true (by rw [PyData.depth, depth_strs]; decide)]
  rfl
theorem eqv_strs {l : List Str} (h : ∀ x ∈ l, PyData.strOk x = true) : PyData.eqv (.list (l.map PyData.str)) (.list (l.map PyData.str)) = true :=
  PySem.SeqAt.eqv_refl _ (by rw [PyData.canLay0]; exact lay_strs h)
theorem dp_strs {K : PySem.W.Frag} {H : Hp} : ∀ l : List Str, DpAll K H (l.map V.str) (l.map PyData.str)
  | [] => .nil
  | x :: r => .cons (.str x) (dp_strs r)
end K11
namespace K11
open PySem L2
theorem iteD {c A B : Prop} [Decidable c] (hc : c) (h : A) : if decide c = true then A else B := by
  rw [decide_eq_true hc]
  exact iteT h
theorem iteN {c A B : Prop} [Decidable c] (hc : ¬ c) (h : B) : if decide c = true then A else B := by
  rw [decide_eq_false hc]
  exact iteF h
theorem iteND {c A B : Prop} [Decidable c] (hc : ¬ c) (h : A) : if (!decide c) = true then A else B := by
  rw [decide_eq_false hc]
  exact iteT h
/-! ### what draws are taken from -/
theorem kla : ¬ (("left" : Str) = "at") := by decide +kernel
theorem klc : ¬ (("left" : Str) = "cells") := by decide +kernel
theorem kac : ¬ (("at" : Str) = "cells") := by decide +kernel
theorem kal : ¬ (("at" : Str) = "left") := fun h => kla h.symm
theorem kcl : ¬ (("cells" : Str) = "left") := fun h => klc h.symm
theorem kca : ¬ (("cells" : Str) = "at") := fun h => kac h.symm
def sd (left at_ : Int) (c : Addr) : List (Key × V) := [(Sum.inr "left", .int left), (Sum.inr "at", .int at_), (Sum.inr "cells", .ref c)]
section
variable {left at_ x : Int} {c : Addr}
theorem sd_left : valV (sd left at_ c) (Sum.inr "left" : Key) = some (.int left) := by simp [sd, valV]
theorem sd_at : valV (sd left at_ c) (Sum.inr "at" : Key) = some (.int at_) := by simp [sd, valV, kla]
theorem sd_cells : valV (sd left at_ c) (Sum.inr "cells" : Key) = some (.ref c) := by simp [sd, valV, klc, kac]
theorem sd_put_left : putK (sd left at_ c) (Sum.inr "left" : Key) (.int x) = sd x at_ c := by simp [sd, putK, kal, kcl]
theorem sd_put_at : putK (sd left at_ c) (Sum.inr "at" : Key) (.int x) = sd left x c := by simp [sd, putK, kla, kca]
theorem sd_made : mergeK [] (sd left at_ c) = sd left at_ c := by
  simp [sd, mergeK, putK, kla, klc, kac]
end
/-- the state of draws at q over the cells ns -/
def StOk (H : Hp) (q c : Addr) (ns : List Int) : Prop := ∃ left at_, H q = some (.dK (sd left at_ c)) ∧ H c = some (.lst (ns.map V.int))
theorem StOk.same {H H' : Hp} {q c : Addr} {ns : List Int} (h : StOk H q c ns) (e : Same H H') : StOk H' q c ns := by
  obtain ⟨l, a, h1, h2⟩ := h
  exact ⟨l, a, e _ _ h1, e _ _ h2⟩
theorem dk_get {H : Hp} {q : Addr} {ks : List (Key × V)} {x : Str} {v : V} (h : H q = some (.dK ks)) (g : valV ks (Sum.inr x : Key) = some v) : DGet H q (.str x) (some v) := by
  have := DGet.k (k := Sum.inr x) h
  rw [g] at this
  exact this
theorem dk_put {H : Hp} {q : Addr} {ks ks' : List (Key × V)} {x : Str} {v : V} (h : H q = some (.dK ks)) (g : putK ks (Sum.inr x : Key) v = ks') (hl : ks.length ≤ 1000) : DPut H q (.str x) v (upd H q (.dK ks')) := by
  have := DPut.k (k := Sum.inr x) (v := v) h (small1000 hl)
  rw [g] at this
  exact this
theorem sqL_dk {K : PySem.W.Frag} {q : Addr} {H H' : Hp} {ks : List (Key × V)} {a : Addr} {xs : List V} (hq : H q = some (.dK ks)) (k : Kp1 q H H') (h : SqL K H a xs) : SqL K H' a xs := by
  rcases h with (h | ⟨o, h⟩) | h
  · exact .inl (.inl (k _ _ h (ne_of h hq (by intro z; cases z))))
  · exact .inl (.inr ⟨o, k _ _ h (ne_of h hq (by intro z; cases z))⟩)
  · exact .inr h
theorem sqT_dk {K : PySem.W.Frag} {q : Addr} {H H' : Hp} {ks : List (Key × V)} {a : Addr} {xs : List V} (hq : H q = some (.dK ks)) (k : Kp1 q H H') (h : SqT K H a xs) : SqT K H' a xs := by
  rcases h with (h | ⟨o, h⟩) | h
  · exact .inl (.inl (k _ _ h (ne_of h hq (by intro z; cases z))))
  · exact .inl (.inr ⟨o, k _ _ h (ne_of h hq (by intro z; cases z))⟩)
  · exact .inr h
theorem Kp1.refl (q : Addr) (H : Hp) : Kp1 q H H := fun _ _ h _ => h
theorem kp1_same {q : Addr} {H H' : Hp} (e : Same H H') : Kp1 q H H' := fun b o h _ => e b o h
section
variable {P : Program} {w : World} {K : PySem.W.Frag} {mg : Str → Option Value} {base : Heap}
/-! ### _law_begin -/
def spBegin (K : PySem.W.Frag) : Sp := fun vs H Q _ => ∃ (a : Addr) (ns : List Int), vs = [.ref a] ∧ SqL K H a (ns.map V.int) ∧ ∀ (q c : Addr) (H' : Hp), Same H H' → H q = none → H c = none → StOk H' q c ns → Q (.ref q) H'
theorem scBegin : FnScope ["_law_script"] ["_law_script"] (defScope lBegin) := ⟨rfl, rfl, rfl, by decide +kernel, rfl, by decide +kernel, by decide +kernel⟩
theorem ok_begin {f : Addr} {fd : FuncData} (g : GDef K mg "_law_begin" lBegin ["_law_script"] f fd) (T : Txt K mg) : FnOk P w K mg base CX0 1 f fd ["_law_script"] (spBegin K) := by
  refine g.F.ok scBegin (fun vs H Q E h => ?_) (fun cdv A outer s H vs Q E hr h => ?_)
  · obtain ⟨a, ns, rfl, _⟩ := h
    rfl
  · obtain ⟨a, ns, rfl, hS, k⟩ := h
    refine ⟨_, pss_one (ps_ret (pe_disp (pps_cons pe_str pe_int (pps_cons pe_str pe_int (pps_cons pe_str (pe_callTy call_list_of (by rfl) T.zList (by decide +kernel) (pa_cons (pv 0) pa_nil)) pps_nil))) (by rfl) (by rfl) (fun z => by cases z) (by decide))), ?_⟩
    refine fun q hq => ⟨_, rfl, a, _, rfl, .inl ((same_new hq).seq hS), fun l hl => ?_⟩
    have nql : q ≠ l := ne_of_none upd_same hl
    refine ⟨by rw [upd_ne nql, upd_same], sd 0 0 l, rfl, by show 3 ≤ 15; decide, ?_⟩
    refine k q l _ ((same_mut ((same_new hq).trans (same_new hl)) hq)) hq ((same_new hq).free hl) ⟨0, 0, ?_, ?_⟩
    · rw [upd_same, sd_made]
    · rw [upd_ne nql.symm, upd_same]
/-! ### _law_more -/
def spMore : Sp := fun vs H Q _ => ∃ (q c : Addr) (ns : List Int), vs = [.ref q] ∧ StOk H q c ns ∧ ∀ (z : Int) (H' : Hp), StOk H' q c ns → Kp1 q H H' → Q (.int z) H'
def primes : List Int := [2147483629, 2147483587, 2147483579, 2147483563, 2147483549, 2147483543, 2147483497, 2147483489]
theorem scMore : FnScope ["_law_state", "_law_k", "_law_cells", "_law_cell", "_law_number_here", "_law_primes", "_law_at", "_law_prime", "_law_one"] ["_law_state"] (defScope lMore) := ⟨rfl, rfl, rfl, by decide +kernel, rfl, by decide +kernel, by decide +kernel⟩
theorem dp_ints {H : Hp} : ∀ l : List Int, DpAll K H (l.map V.int) (l.map PyData.int)
  | [] => .nil
  | x :: r => .cons (.int x) (dp_ints r)
theorem lay_ints : ∀ l : List Int, PyData.canLayAll0 (l.map PyData.int) = true
  | [] => rfl
  | x :: r => by rw [List.map_cons, PyData.canLayAll0, lay_ints r, PyData.canLay0]; rfl
theorem depth_ints0 : ∀ l : List Int, PyData.depthAll (l.map PyData.int) = 0
  | [] => rfl
  | x :: r => by
    rw [List.map_cons, PyData.depthAll, depth_ints0 r]
    simp [PyData.depth]
theorem shaped_ints (l : List Int) : PySem.SeqAt.shaped (.list (l.map PyData.int)) = true := by
  unfold PySem.SeqAt.shaped
  rw [PyData.canLay0, lay_ints, decide_eq_true (by rw [PyData.depth, depth_ints0]; decide)]
  rfl
theorem ok_more {f : Addr} {fd : FuncData} (g : GDef K mg "_law_more" lMore ["_law_state"] f fd) (T : Txt K mg) : FnOk P w K mg base CX0 1 f fd ["_law_state"] spMore := by
  refine g.F.ok scMore (fun vs H Q E h => ?_) (fun cdv A outer s H vs Q E hr h => ?_)
  · obtain ⟨q, c, ns, rfl, _⟩ := h
    rfl
  · obtain ⟨q, c, ns, rfl, ⟨left, k0, h1, h2⟩, k⟩ := h
    have hu := hu_of hr
    have nqc : c ≠ q := ne_of h2 h1 (by intro z; cases z)
    refine ⟨_, pss_cons (ps_set (i := 1) scMore.nd rfl (Or.inl rfl) (pe_dget hu (pv 0) pe_str (fun _ _ => rfl)))
      (pss_cons (ps_dput hu (pv 0) pe_str (pe_op op_add (pv 1) pe_int) rfl)
      (pss_cons (ps_set (i := 2) scMore.nd rfl (Or.inl rfl) (pe_dget hu (pv 0) pe_str (fun _ _ => rfl)))
      (Evl.pss_cut (ps_set (i := 3) scMore.nd rfl (Or.inl rfl) (pe_ifExp (pt_cmpR (op_neD hr.units) (pv 2) (pe_lst pa_nil) (nomark _))
        (pe_callB call_abs (by rfl) T.zAbs (by decide +kernel) (pa_cons (pe_ix ix_list (pv 2) (pe_op op_mod (pv 1) (pe_callB call_len_seq (by rfl) T.zLen PySem.boot_len (pa_cons (pv 2) pa_nil))) (fun _ _ => rfl)) pa_nil)) pe_int))
      (Evl.pss_cut (ps_if (PW.pt (pw_and (pt_cmpR op_lt (pv 1) (pe_callB call_len_seq (by rfl) T.zLen PySem.boot_len (pa_cons (pv 2) pa_nil)) (nomark _)) (pw_and1 (pt_cmpR op_ge (pv 3) (pe_op op_pow pe_int pe_int) (nomark _)))))
        (pss_one (ps_ret (pe_op op_sub (pv 3) (pe_op op_pow pe_int pe_int)))) pss_nil)
      (pss_cons (ps_set (i := 4) scMore.nd rfl (Or.inl rfl) pe_int)
      (pss_cons (ps_set (i := 5) scMore.nd rfl (Or.inl rfl) (pe_lst (pa_cons pe_int (pa_cons pe_int (pa_cons pe_int (pa_cons pe_int (pa_cons pe_int (pa_cons pe_int (pa_cons pe_int (pa_cons pe_int pa_nil))))))))))
      (pss_cons (ps_for PassesOwn.never rfl (pi_enum (by rfl) T.zEnum (pa_cons (pv 5) pa_nil)) (pg_tup rfl (pgs_cons (pg_name (i := 6) scMore.nd rfl (Or.inl rfl)) (pgs_cons (pg_name (i := 7) scMore.nd rfl (Or.inl rfl)) pgs_nil)))
        (Evl.pss_cut (ps_set (i := 8) scMore.nd rfl (Or.inl rfl) (pe_op op_mod (pe_op op_add (pe_op op_add (pe_op op_mul (pe_op op_mod (pv 3) (pv 7)) pe_int) (pe_op op_mul pe_int (pe_op op_add (pv 1) pe_int))) (pe_op op_mul (pe_op op_mul pe_int (pv 6)) (pv 6))) (pv 7)))
        (Evl.pss_cut (ps_set (i := 8) scMore.nd rfl (Or.inl rfl) (pe_op op_mod (pe_op op_add (pe_op op_add (pe_op op_mul (pv 8) (pv 8)) (pe_op op_mul pe_int (pv 1))) (pv 6)) (pv 7)))
        (pss_one (ps_set (i := 4) scMore.nd rfl (Or.inl rfl) (pe_op op_add (pe_op op_mul (pv 4) pe_int) (pe_op op_mod (pe_op op_mul (pv 8) (pe_op op_add (pe_op op_add (pv 8) (pv 6)) pe_int)) (pv 7))))))))
      (pss_one (ps_ret (pv 4)))))))))), ?_⟩
    refine ⟨_, rfl, q, _, rfl, dk_get h1 sd_at, ?_⟩
    refine ⟨_, rfl, _, _, rfl, rfl, _, rfl, q, _, rfl, dk_put h1 sd_put_at (by show 3 ≤ 1000; decide), ?_⟩
    refine ⟨_, rfl, q, _, rfl, dk_get upd_same sd_cells, ?_⟩
    generalize hH1 : upd H q (.dK (sd left (k0 + 1) c)) = H1
    have g1 : H1 q = some (.dK (sd left (k0 + 1) c)) := by rw [← hH1, upd_same]
    have g2 : H1 c = some (.lst (ns.map V.int)) := by rw [← hH1, upd_ne nqc]; exact h2
    have kp : Kp1 q H H1 := fun b o e hb => by rw [← hH1, upd_ne hb]; exact e
    refine ⟨fun σ H' => Same H1 H' ∧ ∃ cell : Int, σ = [some (.ref q), some (.int k0), some (.ref c), some (.int cell), none, none, none, none, none], ?_, ?_⟩
    · refine ⟨_, rfl, Nat.zero_le _, fun l hl => ⟨_, _, .lst (SqL.of (same_new hl _ _ g2)) (dp_ints ns), .lst (SqL.of upd_same) .nil, shaped_ints ns, by decide +kernel, _, rfl, ?_⟩⟩
      cases ns with
      | nil => exact iteF ⟨same_new hl, 0, rfl⟩
      | cons n0 nr =>
        have hlen : (0 : Int) < (((n0 :: nr).map V.int).length : Nat) := by simp only [List.map_cons, List.length_cons]; omega
        refine iteT ⟨_, rfl, _, rfl, _, rfl, c, _, rfl, .inl (SqL.of (same_new hl _ _ g2)), _, _, rfl, rfl, hlen, ?_⟩
        have hm0 := Int.emod_nonneg k0 (Int.ne_of_gt hlen)
        have hm1 := Int.emod_lt_of_pos k0 hlen
        obtain ⟨j, hj⟩ : ∃ j : Nat, k0 % (((n0 :: nr).map V.int).length : Nat) = (j : Int) := ⟨(k0 % (((n0 :: nr).map V.int).length : Nat)).toNat, by omega⟩
        have hjl : j < (n0 :: nr).length := by rw [hj] at hm1; rw [List.length_map] at hm1; omega
        refine ⟨c, _, _, .int (n0 :: nr)[j], rfl, rfl, SqL.of (same_new hl _ _ g2), ?_, _, rfl, same_new hl, _, rfl⟩
        rw [hj]
        exact atI_nat (by rw [List.getElem?_map, List.getElem?_eq_getElem hjl]; rfl)
    rintro σ H2 ⟨s12, cell, rfl⟩
    have f1 := s12 _ _ g1
    have f2 := s12 _ _ g2
    have kp2 : Kp1 q H H2 := kp.trans (kp1_same s12)
    refine ⟨fun σ H' => H' = H2 ∧ σ = [some (.ref q), some (.int k0), some (.ref c), some (.int cell), none, none, none, none, none], ?_, ?_⟩
    · refine ⟨_, rfl, _, rfl, c, _, rfl, .inl (SqL.of f2), _, _, rfl, rfl, _, rfl, ite2 (fun _ => ?_) (fun _ => iteF ⟨rfl, rfl⟩)⟩
      refine ⟨_, rfl, _, _, rfl, rfl, ⟨by decide, by decide, by decide⟩, _, _, rfl, rfl, _, rfl, ite2 (fun _ => ?_) (fun _ => ⟨rfl, rfl⟩)⟩
      refine ⟨_, rfl, _, _, rfl, rfl, ⟨by decide, by decide, by decide⟩, _, _, rfl, rfl, ?_⟩
      exact k _ _ ⟨left, k0 + 1, f1, f2⟩ kp2
    rintro σ H' ⟨rfl, rfl⟩
    refine ⟨by show 8 ≤ sizeLine; decide, fun l8 hl8 => ?_⟩
    refine ⟨_, rfl, l8, primes.map V.int, rfl, SqL.of upd_same, for_it walk_enum (fun i σ H3 => ∃ (num : Int) (v6 v7 v8 : Option V), σ = [some (.ref q), some (.int k0), some (.ref c), some (.int cell), some (.int num), some (.ref l8), v6, v7, v8] ∧ Same (upd H' l8 (.lst (primes.map V.int))) H3)
      ⟨1, none, none, none, rfl, Same.refl _⟩ (fun i σ H3 _ ⟨_, _, _, _, _, s3⟩ => SqL.of (s3 _ _ upd_same)) ?_ ?_⟩
    · rintro i x σ H3 H4 hi ⟨num, v6, v7, v8, rfl, s3⟩ ⟨T', x1, y1, rfl, hT, rfl, e1, e2⟩
      cases e1
      obtain ⟨pr, hpr, rfl⟩ : ∃ pr, primes[i]? = some pr ∧ y1 = V.int pr := by
        have e2 : (primes.map V.int)[i]? = some y1 := e2
        rw [List.getElem?_map] at e2
        cases hz : primes[i]? with
        | none => rw [hz] at e2; cases e2
        | some z => rw [hz] at e2; exact ⟨z, rfl, (Option.some.inj e2).symm⟩
      have hb : ∀ z ∈ primes, (0 : Int) < z ∧ z < 2147483648 := by decide
      obtain ⟨p0, p1⟩ := hb pr (List.mem_of_getElem? hpr)
      have hi8 : i < 8 := by rw [List.length_map] at hi; exact hi
      refine ⟨T', _, rfl, .inl (.inl upd_same), rfl, _, _, rfl, _, _, rfl, rfl, ?_⟩
      generalize hH4 : upd H3 T' (.tup [V.int (i : Int), V.int pr]) = H4
      have s34 : Same H3 H4 := by rw [← hH4]; exact same_new hT
      refine ⟨fun σ H5 => H5 = H4 ∧ ∃ z, 0 ≤ z ∧ z < pr ∧ σ = [some (.ref q), some (.int k0), some (.ref c), some (.int cell), some (.int num), some (.ref l8), some (.int (i : Int)), some (.int pr), some (.int z)], ?_, ?_⟩
      · refine ⟨_, rfl, _, rfl, _, _, rfl, rfl, p0, _, _, rfl, rfl, .inr ⟨by decide, by decide⟩, _, rfl, _, _, rfl, rfl, _, _, rfl, rfl, .inl ⟨by decide, by decide⟩, _, _, rfl, rfl, _, rfl, _, _, rfl, rfl, .inl ⟨by decide, by decide⟩, _, rfl, _, _, rfl, rfl, .inr ⟨by omega, by omega⟩, _, _, rfl, rfl, _, rfl, _, _, rfl, rfl, p0, ?_⟩
        exact ⟨rfl, _, Int.emod_nonneg _ (Int.ne_of_gt p0), Int.emod_lt_of_pos _ p0, rfl⟩
      rintro σ H5 ⟨rfl, z, z0, z1, rfl⟩
      refine ⟨fun σ H6 => H6 = H5 ∧ ∃ y, 0 ≤ y ∧ y < pr ∧ σ = [some (.ref q), some (.int k0), some (.ref c), some (.int cell), some (.int num), some (.ref l8), some (.int (i : Int)), some (.int pr), some (.int y)], ?_, ?_⟩
      · refine ⟨_, rfl, _, rfl, _, _, rfl, rfl, .inl ⟨by omega, by omega⟩, _, rfl, _, _, rfl, rfl, .inl ⟨by decide, by decide⟩, _, _, rfl, rfl, _, rfl, _, _, rfl, rfl, _, rfl, _, _, rfl, rfl, p0, ?_⟩
        exact ⟨rfl, _, Int.emod_nonneg _ (Int.ne_of_gt p0), Int.emod_lt_of_pos _ p0, rfl⟩
      rintro σ H6 ⟨rfl, y, y0, y1, rfl⟩
      refine ⟨_, rfl, _, _, rfl, rfl, .inr ⟨by decide, by decide⟩, _, rfl, _, rfl, _, rfl, _, _, rfl, rfl, _, _, rfl, rfl, _, _, rfl, rfl, .inl ⟨by omega, by omega⟩, _, rfl, _, _, rfl, rfl, p0, _, _, rfl, rfl, ?_⟩
      exact ⟨_, _, _, _, rfl, s3.trans s34⟩
    · rintro σ H3 ⟨num, v6, v7, v8, rfl, s3⟩
      have s8 := (same_new hl8).trans s3
      exact ⟨_, rfl, k num H3 ⟨left, k0 + 1, s8 _ _ f1, s8 _ _ f2⟩ (kp2.trans (kp1_same s8))⟩
end
end K11
namespace K11
open PySem L2
section
variable {P : Program} {w : World} {K : PySem.W.Frag} {mg : Str → Option Value} {base : Heap}
/-! ### _law_next, _law_pick -/
def spNext : Sp := fun vs H Q _ => ∃ (q c : Addr) (ns : List Int) (m : Int), vs = [.ref q, .int m] ∧ 0 < m ∧ m < 1073741824 ∧ StOk H q c ns ∧ ∀ (r : Int) (H' : Hp), 0 ≤ r → r < m → StOk H' q c ns → Kp1 q H H' → Q (.int r) H'
theorem scNext : FnScope ["_law_state", "_law_most", "_law_digit"] ["_law_state", "_law_most"] (defScope lNext) := ⟨rfl, rfl, rfl, by decide +kernel, rfl, by decide +kernel, by decide +kernel⟩
theorem ok_next {f : Addr} {fd : FuncData} (g : GDef K mg "_law_next" lNext ["_law_state", "_law_most"] f fd) (cM : Cal P w K mg base 1 "_law_more" spMore) : FnOk P w K mg base CX0 2 f fd ["_law_state", "_law_most"] spNext := by
  refine g.F.ok scNext (fun vs H Q E h => ?_) (fun cdv A outer s H vs Q E hr h => ?_)
  · obtain ⟨q, c, ns, m, rfl, _⟩ := h
    rfl
  · obtain ⟨q, c, ns, m, rfl, m0, m1, ⟨left, k0, h1, h2⟩, k⟩ := h
    have hu := hu_of hr
    refine ⟨_, Evl.pss_cut (ps_if (pt_cmpR op_eq (pe_dget hu (pv 0) pe_str (fun _ _ => rfl)) pe_int (nomark _)) (pss_one (ps_dput hu (pv 0) pe_str (pe_g cM hr (by decide) (pa_cons (pv 0) pa_nil)) rfl)) pss_nil)
      (pss_cons (ps_set (i := 2) scNext.nd rfl (Or.inl rfl) (pe_op op_mod (pe_dget hu (pv 0) pe_str (fun _ _ => rfl)) (pv 1)))
      (pss_cons (ps_daug hu (pv 0) pe_str (pv 1) in_fdiv (fun _ _ _ => rfl)) (pss_one (ps_ret (pv 2))))), ?_⟩
    refine ⟨fun σ H' => σ = [some (.ref q), some (.int m), none] ∧ StOk H' q c ns ∧ Kp1 q H H', ?_, ?_⟩
    · refine ⟨_, rfl, q, _, rfl, dk_get h1 sd_left, rfl, _, rfl, ite2 (fun _ => ?_) (fun _ => ⟨rfl, ⟨left, k0, h1, h2⟩, Kp1.refl _ _⟩)⟩
      refine ⟨_, rfl, q, c, ns, rfl, ⟨left, k0, h1, h2⟩, fun z H1 ⟨left', k1, g1, g2⟩ kp => ?_⟩
      have ncq : c ≠ q := ne_of g2 g1 (by intro z; cases z)
      refine ⟨_, rfl, q, _, rfl, dk_put g1 sd_put_left (by show 3 ≤ 1000; decide), rfl, ⟨z, k1, upd_same, by rw [upd_ne ncq]; exact g2⟩, fun b o e hb => by rw [upd_ne hb]; exact kp b o e hb⟩
    rintro σ H' ⟨rfl, ⟨left', k1, g1, g2⟩, kp⟩
    have ncq : c ≠ q := ne_of g2 g1 (by intro z; cases z)
    refine ⟨_, rfl, q, _, rfl, dk_get g1 sd_left, _, rfl, _, _, rfl, rfl, m0, ?_⟩
    refine ⟨_, rfl, q, _, rfl, dk_get g1 sd_left, _, rfl, _, _, rfl, rfl, ⟨m0, m1⟩, _, dk_put g1 sd_put_left (by show 3 ≤ 1000; decide), ?_⟩
    refine ⟨_, rfl, k _ _ (Int.emod_nonneg _ (Int.ne_of_gt m0)) (Int.emod_lt_of_pos _ m0) ⟨_, k1, upd_same, by rw [upd_ne ncq]; exact g2⟩ fun b o e hb => by rw [upd_ne hb]; exact kp b o e hb⟩
def spPick (K : PySem.W.Frag) : Sp := fun vs H Q _ => ∃ (q c l : Addr) (ns : List Int) (xs : List V), vs = [.ref q, .ref l] ∧ SqL K H l xs ∧ 0 < xs.length ∧ xs.length < 1000 ∧ StOk H q c ns ∧ ∀ (i : Nat) (y : V) (H' : Hp), xs[i]? = some y → StOk H' q c ns → Kp1 q H H' → Q y H'
theorem scPick : FnScope ["_law_state", "_law_some"] ["_law_state", "_law_some"] (defScope lPick) := ⟨rfl, rfl, rfl, by decide +kernel, rfl, by decide +kernel, by decide +kernel⟩
theorem ok_pick {f : Addr} {fd : FuncData} (g : GDef K mg "_law_pick" lPick ["_law_state", "_law_some"] f fd) (T : Txt K mg) (cN : Cal P w K mg base 2 "_law_next" spNext) : FnOk P w K mg base CX0 3 f fd ["_law_state", "_law_some"] (spPick K) := by
  refine g.F.ok scPick (fun vs H Q E h => ?_) (fun cdv A outer s H vs Q E hr h => ?_)
  · obtain ⟨q, c, l, ns, xs, rfl, _⟩ := h
    rfl
  · obtain ⟨q, c, l, ns, xs, rfl, hS, l0, l1, st, k⟩ := h
    obtain ⟨left, k0, h1, h2⟩ := id st
    refine ⟨_, pss_one (ps_ret (pe_ix ix_list (pv 1) (pe_g cN hr (by decide) (pa_cons (pv 0) (pa_cons (pe_callB call_len_seq (by rfl) T.zLen PySem.boot_len (pa_cons (pv 1) pa_nil)) pa_nil))) (fun _ _ => rfl))), ?_⟩
    refine ⟨_, rfl, _, rfl, _, rfl, l, _, rfl, .inl hS, q, c, ns, _, rfl, by omega, by omega, st, fun r H1 r0 r1 st1 kp => ?_⟩
    obtain ⟨j, rfl⟩ : ∃ j : Nat, r = (j : Int) := ⟨r.toNat, by omega⟩
    have hj : j < xs.length := by omega
    have hg : xs[j]? = some xs[j] := List.getElem?_eq_getElem hj
    exact ⟨l, xs, _, xs[j], rfl, rfl, sqL_dk h1 kp hS, atI_nat hg, k j _ H1 hg st1 kp⟩
/-! ### _law_asks -/
def bases : List Str := ["a", "b", "kind", "size 1"]
def mosts : List Int := [0, 1, 2, 5, 6, 64, 100, 4000, 8190]
def nmV : Ask Str → V
  | .ev => .non
  | .bit x => .str x
  | .num x _ => .str x
def moV : Ask Str → V
  | .ev => .non
  | .bit _ => .non
  | .num _ m => .int (m : Int)
def Known : Ask Str → Prop
  | .ev => True
  | .bit x => x ∈ bases
  | .num x m => x ∈ bases ∧ m ≤ 8190
def AskAt (H : Hp) (t : Addr) (a : Ask Str) : Prop := H t = some (.tup [nmV a, moV a])
theorem asks_keep {q : Addr} {H H' : Hp} {ks : List (Key × V)} (hq : H q = some (.dK ks)) (k : Kp1 q H H') : ∀ {ts : List Addr} {as : List (Ask Str)}, Paired (AskAt H) ts as → Paired (AskAt H') ts as
  | _, _, .nil => .nil
  | _, _, .cons h r => .cons (k _ _ h (ne_of h hq (by intro z; cases z))) (asks_keep hq k r)
theorem asks_same {H H' : Hp} (e : Same H H') {ts : List Addr} {as : List (Ask Str)} (h : Paired (AskAt H) ts as) : Paired (AskAt H') ts as := Paired.mapP h fun t a x => e _ _ x
def spAsks : Sp := fun vs H Q _ => ∃ (q c : Addr) (ns : List Int) (m : Nat), vs = [.ref q, .int (m : Int)] ∧ m ≤ 89 ∧ StOk H q c ns ∧
  ∀ (p : Addr) (H' : Hp) (ts : List Addr) (as : List (Ask Str)), StOk H' q c ns → Kp1 q H H' → H p = none → H' p = some (.lst (ts.map V.ref)) → Paired (AskAt H') ts as → as.length = m → (∀ a ∈ as, Known a) → Q (.ref p) H'
theorem scAsks : FnScope ["_law_state", "_law_many", "_law_found", "_law_k", "_law_name", "_law_most"] ["_law_state", "_law_many"] (defScope lAsks) := ⟨rfl, rfl, rfl, by decide +kernel, rfl, by decide +kernel, by decide +kernel⟩
theorem ok_asks {f : Addr} {fd : FuncData} (g : GDef K mg "_law_asks" lAsks ["_law_state", "_law_many"] f fd) (T : Txt K mg) (cN : Cal P w K mg base 2 "_law_next" spNext) (cP : Cal P w K mg base 3 "_law_pick" (spPick K)) : FnOk P w K mg base CX0 4 f fd ["_law_state", "_law_many"] spAsks := by
  refine g.F.ok scAsks (fun vs H Q E h => ?_) (fun cdv A outer s H vs Q E hr h => ?_)
  · obtain ⟨q, c, ns, m, rfl, _⟩ := h
    rfl
  · obtain ⟨q, c, ns, m, rfl, hm, st, k⟩ := h
    refine ⟨_, pss_cons (ps_set (i := 2) scAsks.nd rfl (Or.inl rfl) (pe_lst pa_nil)) (pss_cons (ps_for PassesOwn.never rfl (pi_range1 rfl T.zRange (pa_cons (pv 1) pa_nil)) (pg_name (i := 3) scAsks.nd rfl (Or.inl rfl))
      (pss_cons (ps_set (i := 4) scAsks.nd rfl (Or.inl rfl) (pe_g cP hr (by decide) (pa_cons (pv 0) (pa_cons (pe_lst (pa_cons pe_str (pa_cons pe_str (pa_cons pe_str (pa_cons pe_str (pa_cons pe_non pa_nil)))))) pa_nil))))
      (pss_cons (ps_set (i := 5) scAsks.nd rfl (Or.inl rfl) pe_non)
      (Evl.pss_cut (ps_if (PW.pt (pw_and (pt_cmpR op_notN (pv 4) pe_non (nomark _)) (pw_and1 (pt_cmpR op_eq (pe_g cN hr (by decide) (pa_cons (pv 0) (pa_cons pe_int pa_nil))) pe_int (nomark _)))))
        (pss_one (ps_set (i := 5) scAsks.nd rfl (Or.inl rfl) (pe_g cP hr (by decide) (pa_cons (pv 0) (pa_cons (pe_lst (pa_cons pe_int (pa_cons pe_int (pa_cons pe_int (pa_cons pe_int (pa_cons pe_int (pa_cons pe_int (pa_cons pe_int (pa_cons pe_int (pa_cons pe_int pa_nil)))))))))) pa_nil))))) pss_nil)
      (pss_one (ps_expr (pe_bm PySem.F.plainAttrs_list PySem.F.slot_list_append PySem.F.type_list_append mt_append (pv 2) (pa_cons (pe_tup (pa_cons (pv 4) (pa_cons (pv 5) pa_nil))) pa_nil))))))))
      (pss_one (ps_ret (pv 2)))), ?_⟩
    refine ⟨Nat.zero_le _, fun l hl => ?_⟩
    obtain ⟨left, k0, h1, h2⟩ := id st
    have nlq : q ≠ l := ne_of_none h1 hl
    refine ⟨_, rfl, (m : Int), rfl, by omega, by omega, for_range (n := m) (fun i σ H' => ∃ (v3 v4 v5 : Option V) (ts : List Addr) (as : List (Ask Str)), σ = [some (.ref q), some (.int (m : Int)), some (.ref l), v3, v4, v5] ∧ StOk H' q c ns ∧ Kp1 q H H' ∧ H' l = some (.lst (ts.map V.ref)) ∧
      Paired (AskAt H') ts as ∧ as.length = i ∧ ∀ a ∈ as, Known a) ⟨none, none, none, [], [], rfl, st.same (same_new hl), kp1_same (same_new hl), upd_same, .nil, rfl, fun a h => by cases h⟩ ?_ ?_⟩
    · rintro i σ H' hi ⟨v3, v4, v5, ts, as, rfl, st', kp, hL, pa, ha, kn⟩
      refine ⟨_, rfl, (by show 5 ≤ sizeLine; decide), fun p5 hp5 => ?_⟩
      have s5 : ∀ o, Same H' (upd H' p5 o) := fun o => same_new hp5
      refine ⟨q, c, p5, ns, _, rfl, SqL.of upd_same, by show 0 < 5; decide, by show 5 < 1000; decide, st'.same (s5 _), fun j y H1 hy st1 kp1 => ?_⟩
      have kq1 : Kp1 q H' H1 := (kp1_same (s5 _)).trans kp1
      obtain ⟨left', k1, g1, g2⟩ := id st'
      have nl : l ≠ q := nlq.symm
      have hL1 : H1 l = some (.lst (ts.map V.ref)) := kq1 _ _ hL nl
      have pa1 : Paired (AskAt H1) ts as := asks_keep g1 kq1 pa
      have hyc : y = .non ∨ ∃ x ∈ bases, y = .str x := by
        have hb : ∀ z ∈ [V.str "a", V.str "b", V.str "kind", V.str "size 1", V.non], z = V.non ∨ ∃ x ∈ bases, z = V.str x := by
          intro z hz
          simp only [List.mem_cons, List.not_mem_nil, or_false] at hz
          rcases hz with rfl | rfl | rfl | rfl | rfl
          · exact .inr ⟨"a", by simp [bases], rfl⟩
          · exact .inr ⟨"b", by simp [bases], rfl⟩
          · exact .inr ⟨"kind", by simp [bases], rfl⟩
          · exact .inr ⟨"size 1", by simp [bases], rfl⟩
          · exact .inl rfl
        exact hb y (List.mem_of_getElem? hy)
      refine ⟨fun σ H2 => ∃ a : Ask Str, Known a ∧ σ = [some (.ref q), some (.int (m : Int)), some (.ref l), some (.int (0 + (i : Int))), some (nmV a), some (moV a)] ∧ StOk H2 q c ns ∧ Kp1 q H1 H2, ?_, ?_⟩
      · rcases hyc with rfl | ⟨x, hx, rfl⟩
        · exact ⟨_, rfl, rfl, _, rfl, iteF ⟨.ev, True.intro, rfl, st1, Kp1.refl _ _⟩⟩
        · refine ⟨_, rfl, rfl, _, rfl, iteT ?_⟩
          refine ⟨_, rfl, q, c, ns, 3, rfl, by decide, by decide, st1, fun r H2 r0 r1 st2 kp2 => ⟨rfl, _, rfl, ite2 (fun _ => ?_) (fun _ => ⟨.bit x, hx, rfl, st2, kp2⟩)⟩⟩
          refine ⟨_, rfl, (by show 9 ≤ sizeLine; decide), fun p9 hp9 => ?_⟩
          refine ⟨q, c, p9, ns, mosts.map V.int, rfl, SqL.of upd_same, by show 0 < 9; decide, by show 9 < 1000; decide, st2.same (same_new hp9), fun j2 y2 H3 hy2 st3 kp3 => ?_⟩
          have hb : ∀ z ∈ mosts, 0 ≤ z ∧ z ≤ 8190 := by decide
          rw [List.getElem?_map] at hy2
          cases hz : mosts[j2]? with
          | none => rw [hz] at hy2; cases hy2
          | some z =>
            rw [hz] at hy2
            cases hy2
            obtain ⟨z0, z1⟩ := hb z (List.mem_of_getElem? hz)
            refine ⟨.num x z.toNat, ⟨hx, by omega⟩, ?_, st3, kp2.trans ((kp1_same (same_new hp9)).trans kp3)⟩
            show [some (V.ref q), some (V.int (m : Int)), some (V.ref l), some (V.int (0 + (i : Int))), some (V.str x), some (V.int z)] = _
            show _ = [some (V.ref q), some (V.int (m : Int)), some (V.ref l), some (V.int (0 + (i : Int))), some (V.str x), some (V.int ((z.toNat : Nat) : Int))]
            rw [show ((z.toNat : Nat) : Int) = z by omega]
      rintro σ H2 ⟨a, hka, rfl, st2, kp2⟩
      obtain ⟨left2, k2, g3, g4⟩ := id st1
      have hL2 : H2 l = some (.lst (ts.map V.ref)) := kp2 _ _ hL1 nl
      have pa2 : Paired (AskAt H2) ts as := asks_keep g3 kp2 pa1
      refine ⟨_, rfl, .inl ⟨rfl, _, SqL.of hL2⟩, _, rfl, _, rfl, (by show 2 ≤ sizeLine; decide), fun t ht => ?_⟩
      have ntl : l ≠ t := ne_of_none hL2 ht
      refine ⟨l, _, _, rfl, rfl, by rw [upd_ne ntl]; exact hL2, ?_, ?_⟩
      · have := Paired.length pa
        rw [List.length_map]
        exact small1000 (by omega)
      refine ⟨_, _, _, ts ++ [t], as ++ [a], rfl, ?_, ?_, ?_, ?_, ?_, ?_⟩
      · obtain ⟨l3, k3, e1, e2⟩ := id st2
        have nq : q ≠ t := ne_of_none e1 ht
        have nc : c ≠ t := ne_of_none e2 ht
        have nlc : c ≠ l := ne_of_none h2 hl
        exact ⟨l3, k3, by rw [upd_ne nlq, upd_ne nq]; exact e1, by rw [upd_ne nlc, upd_ne nc]; exact e2⟩
      · intro b o e hb
        have nbl : b ≠ l := ne_of_none e hl
        have e2 : H2 b = some o := kp2 b o (kq1 b o (kp b o e hb) hb) hb
        rw [upd_ne nbl, upd_ne (ne_of_none e2 ht)]
        exact e2
      · rw [upd_same, List.map_append]
        rfl
      · have keep : ∀ (t0 : Addr) (a0 : Ask Str), AskAt H2 t0 a0 → AskAt (upd (upd H2 t (.tup [nmV a, moV a])) l (.lst (ts.map V.ref ++ [V.ref t]))) t0 a0 := fun t0 a0 e => by
          unfold AskAt
          rw [upd_ne (ne_of e hL2 (by intro z; cases z)), upd_ne (ne_of_none e ht)]
          exact e
        refine Paired.snoc (Paired.mapP pa2 keep) ?_
        unfold AskAt
        rw [upd_ne ntl.symm, upd_same]
      · rw [List.length_append, ha]
        rfl
      · intro a0 h0
        rcases List.mem_append.mp h0 with h0 | h0
        · exact kn a0 h0
        · rw [List.mem_singleton.mp h0]
          exact hka
    · rintro σ H' ⟨v3, v4, v5, ts, as, rfl, st', kp, hL, pa, ha, kn⟩
      exact ⟨_, rfl, k l H' ts as st' kp hl hL pa ha kn⟩
end
end K11
namespace K11
open PySem L2
/-! ### the reader that the law keeps: a dict -/
theorem k12 : ¬ (("low" : Str) = "wide") := by decide +kernel
theorem k13 : ¬ (("low" : Str) = "n") := by decide +kernel
theorem k14 : ¬ (("low" : Str) = "names") := by decide +kernel
theorem k15 : ¬ (("low" : Str) = "letters") := by decide +kernel
theorem k16 : ¬ (("low" : Str) = "code") := by decide +kernel
theorem k23 : ¬ (("wide" : Str) = "n") := by decide +kernel
theorem k24 : ¬ (("wide" : Str) = "names") := by decide +kernel
theorem k25 : ¬ (("wide" : Str) = "letters") := by decide +kernel
theorem k26 : ¬ (("wide" : Str) = "code") := by decide +kernel
theorem k34 : ¬ (("n" : Str) = "names") := by decide +kernel
theorem k35 : ¬ (("n" : Str) = "letters") := by decide +kernel
theorem k36 : ¬ (("n" : Str) = "code") := by decide +kernel
theorem k45 : ¬ (("names" : Str) = "letters") := by decide +kernel
theorem k46 : ¬ (("names" : Str) = "code") := by decide +kernel
theorem k56 : ¬ (("letters" : Str) = "code") := by decide +kernel
def cdk (low wide n : Int) (dn g : Addr) (code : Int) : List (Key × V) :=
  [(Sum.inr "low", .int low), (Sum.inr "wide", .int wide), (Sum.inr "n", .int n), (Sum.inr "names", .ref dn), (Sum.inr "letters", .ref g), (Sum.inr "code", .int code)]
section
variable {low wide n code x : Int} {dn g : Addr}
theorem cdk_low : valV (cdk low wide n dn g code) (Sum.inr "low" : Key) = some (.int low) := by simp [cdk, valV]
theorem cdk_wide : valV (cdk low wide n dn g code) (Sum.inr "wide" : Key) = some (.int wide) := by simp [cdk, valV, k12]
theorem cdk_n : valV (cdk low wide n dn g code) (Sum.inr "n" : Key) = some (.int n) := by simp [cdk, valV, k13, k23]
theorem cdk_names : valV (cdk low wide n dn g code) (Sum.inr "names" : Key) = some (.ref dn) := by simp [cdk, valV, k14, k24, k34]
theorem cdk_letters : valV (cdk low wide n dn g code) (Sum.inr "letters" : Key) = some (.ref g) := by simp [cdk, valV, k15, k25, k35, k45]
theorem cdk_code : valV (cdk low wide n dn g code) (Sum.inr "code" : Key) = some (.int code) := by simp [cdk, valV, k16, k26, k36, k46, k56]
theorem cdk_put_low : putK (cdk low wide n dn g code) (Sum.inr "low" : Key) (.int x) = cdk x wide n dn g code := by
  simp [cdk, putK, fun h => k12 (Eq.symm h), mt Eq.symm k12, mt Eq.symm k13, mt Eq.symm k14, mt Eq.symm k15, mt Eq.symm k16]
theorem cdk_put_wide : putK (cdk low wide n dn g code) (Sum.inr "wide" : Key) (.int x) = cdk low x n dn g code := by
  simp [cdk, putK, k12, mt Eq.symm k23, mt Eq.symm k24, mt Eq.symm k25, mt Eq.symm k26]
theorem cdk_put_n : putK (cdk low wide n dn g code) (Sum.inr "n" : Key) (.int x) = cdk low wide x dn g code := by
  simp [cdk, putK, k13, k23, mt Eq.symm k34, mt Eq.symm k35, mt Eq.symm k36]
theorem cdk_put_code : putK (cdk low wide n dn g code) (Sum.inr "code" : Key) (.int x) = cdk low wide n dn g x := by
  simp [cdk, putK, k16, k26, k36, k46, k56]
theorem cdk_made : mergeK [] (cdk low wide n dn g code) = cdk low wide n dn g code := by
  simp [cdk, mergeK, putK, k12, k13, k14, k15, k16, k23, k24, k25, k26, k34, k35, k36, k45, k46, k56]
theorem cdk_len : (cdk low wide n dn g code).length ≤ 1000 := by show 6 ≤ 1000; decide
end
/-- the kept reader of the letters L stands at q, its names at dn, its letters at g -/
structure KcAt (K : PySem.W.Frag) (H : Hp) (q dn g : Addr) (L : List Int) (s : St0) : Prop where
  ob : H q = some (.dK (cdk s.low s.br (s.n : Int) dn g (cd L (s.n + 4))))
  nm : H dn = some (.dK (kvs s.lrn))
  ne : q ≠ dn
  lt : SqT K H g (L.map V.int)
theorem KcAt.same {K : PySem.W.Frag} {H H' : Hp} {q dn g : Addr} {L : List Int} {s : St0} (c : KcAt K H q dn g L s) (e : Same H H') : KcAt K H' q dn g L s :=
  ⟨e _ _ c.ob, e _ _ c.nm, c.ne, same_tup e c.lt⟩
section
variable {P : Program} {w : World} {K : PySem.W.Frag} {mg : Str → Option Value} {base : Heap}
/-- xs[at] if at < len(xs) else 0 -/
theorem getor {σ : L2.St} {H : Hp} {i j : Nat} {g : Addr} {L : List Int} {k : Nat} {Q : VK} (hg : σ[i]? = some (some (.ref g))) (hk : σ[j]? = some (some (.int (k : Int)))) (hT : SqT K H g (L.map V.int)) (q : Q (.int (L.getD k 0)) H) :
    tIf (tTest (tOp (rI0 fun i j => .bl (decide (i < j))) (tVar j) (tCB (fun xs H Q => ∃ p ys, xs = [.ref p] ∧ (SqL K H p ys ∨ SqT K H p ys) ∧ Q (.int ys.length) H) (tCons (tVar i) tNil)))) (tOp (rIxT K) (tVar i) (tVar j)) (tC (.int 0)) σ H Q := by
  refine ⟨_, hk, _, hg, g, _, rfl, .inr hT, _, _, rfl, rfl, _, rfl, ite2 (fun h => ?_) (fun h => ?_)⟩
  · have hi : k < L.length := by
      have := of_decide_eq_true h
      rw [List.length_map] at this
      omega
    refine ⟨_, hg, _, hk, g, _, _, V.int L[k], rfl, rfl, hT, atI_nat (by rw [List.getElem?_map, List.getElem?_eq_getElem hi]; rfl), ?_⟩
    rw [List.getD_eq_getElem?_getD, List.getElem?_eq_getElem hi] at q
    exact q
  · have hi : ¬ k < L.length := fun q => h (decide_eq_true (by rw [List.length_map]; omega))
    rw [List.getD_eq_getElem?_getD, List.getElem?_eq_none (by omega)] at q
    exact q
/-! ### _law_coder -/
def spCoder (K : PySem.W.Frag) : Sp := fun vs H Q _ => ∃ (g : Addr) (L : List Int), vs = [.ref g] ∧ SqT K H g (L.map V.int) ∧ ∀ (q dn : Addr) (H' : Hp), Same H H' → H q = none → H dn = none → KcAt K H' q dn g L cs0 → Q (.ref q) H'
theorem scCoder : FnScope ["_law_letters_here", "_law_found", "_law_at"] ["_law_letters_here"] (defScope lCoder) := ⟨rfl, rfl, rfl, by decide +kernel, rfl, by decide +kernel, by decide +kernel⟩
theorem ok_coder {f : Addr} {fd : FuncData} (g : GDef K mg "_law_coder" lCoder ["_law_letters_here"] f fd) (T : Txt K mg) : FnOk P w K mg base CX0 1 f fd ["_law_letters_here"] (spCoder K) := by
  refine g.F.ok scCoder (fun vs H Q E h => ?_) (fun cdv A outer s H vs Q E hr h => ?_)
  · obtain ⟨g, L, rfl, _⟩ := h
    rfl
  · obtain ⟨g, L, rfl, hT, k⟩ := h
    have hu := hu_of hr
    refine ⟨_, pss_cons (ps_set (i := 1) scCoder.nd rfl (Or.inl rfl) (pe_disp (pps_cons pe_str pe_int (pps_cons pe_str (pe_op op_pow pe_int pe_int) (pps_cons pe_str pe_int (pps_cons pe_str pe_dnewK (pps_cons pe_str (pv 0) (pps_cons pe_str pe_int pps_nil)))))) (by rfl) (by rfl) (fun z => by cases z) (by decide)))
      (pss_cons (ps_if (pt_cmpR op_notN (pv 0) pe_non (nomark _)) (pss_one (ps_for PassesOwn.never rfl (pi_range1 rfl T.zRange (pa_cons pe_int pa_nil)) (pg_name (i := 2) scCoder.nd rfl (Or.inl rfl))
        (pss_one (ps_dput hu (pv 1) pe_str (pe_op op_add (pe_op op_mul (pe_dget hu (pv 1) pe_str (fun _ _ => rfl)) pe_int) (pe_ifExp (pt_cmpR op_lt (pv 2) (pe_callB call_len_seq (by rfl) T.zLen PySem.boot_len (pa_cons (pv 0) pa_nil)) (nomark _)) (pe_ix ix_tup (pv 0) (pv 2) (fun _ _ => rfl)) pe_int)) rfl)))) pss_nil)
      (pss_one (ps_ret (pv 1)))), ?_⟩
    refine fun q hq => ⟨_, _, rfl, rfl, ⟨by decide, by decide, by decide⟩, fun dn hdn => ⟨_, rfl, ?_⟩⟩
    have nqd : q ≠ dn := ne_of_none upd_same hdn
    refine ⟨by rw [upd_ne nqd, upd_same], cdk 0 4294967296 0 dn g 0, rfl, by show 6 ≤ 15; decide, ?_⟩
    have hdn0 : H dn = none := (same_new hq).free hdn
    refine ⟨_, rfl, rfl, _, rfl, iteT ?_⟩
    have s0 : ∀ o' o'', Same H (upd (upd (upd H q (.dK [])) dn o') q o'') := fun o' o'' => same_mut ((same_new hq).trans (same_new hdn)) hq
    refine ⟨4, rfl, by decide, by decide, for_range (n := 4) (fun i σ H' => ∃ v, σ = [some (.ref g), some (.ref q), v] ∧ Same H H' ∧ H' q = some (.dK (cdk 0 4294967296 0 dn g (cd L i))) ∧ H' dn = some (.dK [])) ⟨none, rfl, s0 _ _, ?_, ?_⟩ ?_ ?_⟩
    · rw [upd_same, cdk_made]
      rfl
    · rw [upd_ne nqd.symm, upd_same]
    · rintro i σ H' hi ⟨v, rfl, s1, h1, h2⟩
      refine ⟨_, rfl, q, _, rfl, dk_get h1 cdk_code, _, _, rfl, rfl, .inr ⟨by decide, by decide⟩, ?_⟩
      refine getor (k := i) rfl ?_ (same_tup s1 hT) ?_
      · show some (some (V.int (0 + (i : Int)))) = _
        rw [Int.zero_add]
      refine ⟨_, _, rfl, rfl, _, rfl, q, _, rfl, dk_put h1 cdk_put_code cdk_len, ?_⟩
      exact ⟨_, rfl, same_mut s1 hq, by rw [upd_same]; rfl, by rw [upd_ne nqd.symm]; exact h2⟩
    · rintro σ H' ⟨v, rfl, s1, h1, h2⟩
      exact ⟨_, rfl, k q dn H' s1 hq hdn0 ⟨h1, h2, nqd, same_tup s1 hT⟩⟩
end
end K11
namespace K11
open PySem L2
/-! ### a sign of the kept reader -/
def oV : Option Str → V
  | none => .non
  | some x => .str x
def sgC (s : St0) : Option Str → Int
  | none => 1024
  | some x => look s.lrn x
def sgL (s : St0) (v : Int) : Option Str → List (Str × Int)
  | none => s.lrn
  | some x => put s.lrn x (upC (look s.lrn x) v)
def sgS (s : St0) (o : Option Str) (v : Int) : St0 := { nar s (s.br / 2048 * sgC s o) v with lrn := sgL s v o }
theorem sgS_none (s : St0) (v : Int) : sgS s none v = evS s v := by
  have h := nar_lrn s (s.br / 2048 * 1024) v
  show ({ nar s (s.br / 2048 * 1024) v with lrn := s.lrn } : St0) = nar s (s.br / 2048 * 1024) v
  generalize nar s (s.br / 2048 * 1024) v = t at *
  rw [← h]
theorem sgS_some (s : St0) (x : Str) (v : Int) : sgS s (some x) v = bitS s x v := rfl
theorem sgC_ok {s : St0} (o : Ok s) : ∀ x, 31 ≤ sgC s x ∧ sgC s x ≤ 2017
  | none => ⟨by show (31 : Int) ≤ 1024; decide, by show (1024 : Int) ≤ 2017; decide⟩
  | some x => look_mem o.ch
theorem Kp.upd1 {q dn : Addr} {H H1 : Hp} {o : HO} (k : Kp q dn H H1) : Kp q dn H (L2.upd H1 q o) := fun b u e h1 h2 => by
  rw [upd_ne h1]
  exact k b u e h1 h2
theorem Kp.upd2 {q dn : Addr} {H H1 : Hp} {o : HO} (k : Kp q dn H H1) : Kp q dn H (L2.upd H1 dn o) := fun b u e h1 h2 => by
  rw [upd_ne h2]
  exact k b u e h1 h2
theorem kp_tupD {K : PySem.W.Frag} {p d : Addr} {H H' : Hp} {a : Addr} {xs : List V} {ks js : List (Key × V)} (e : Kp p d H H') (hp : H p = some (.dK js)) (hd : H d = some (.dK ks)) (h : SqT K H a xs) : SqT K H' a xs :=
  sqT_keep h fun ys r => by
    rcases r with r | ⟨o, r⟩
    · exact .inl (e _ _ r (ne_of r hp (by intro z; cases z)) (ne_of r hd (by intro z; cases z)))
    · exact .inr ⟨o, e _ _ r (ne_of r hp (by intro z; cases z)) (ne_of r hd (by intro z; cases z))⟩
section
variable {P : Program} {w : World} {K : PySem.W.Frag} {mg : Str → Option Value} {base : Heap}
def spSign (K : PySem.W.Frag) : Sp := fun vs H Q _ => ∃ (q dn g : Addr) (L : List Int) (s : St0) (o : Option Str), vs = [.ref q, oV o, .non] ∧ KcAt K H q dn g L s ∧ Ok s ∧ s.lrn.length ≤ 1000 ∧
  ∀ H', KcAt K H' q dn g L (sgS s o (dec L s (sgC s o))) → Kp q dn H H' → Q (.int (dec L s (sgC s o))) H'
theorem scSign : FnScope ["_law_coder_here", "_law_name", "_law_value", "_law_p", "_law_part", "_law_more_here", "_law_some", "_law_at"] ["_law_coder_here", "_law_name", "_law_value"] (defScope lSign) := ⟨rfl, rfl, rfl, by decide +kernel, rfl, by decide +kernel, by decide +kernel⟩
theorem ok_sign {f : Addr} {fd : FuncData} (g : GDef K mg "_law_sign" lSign ["_law_coder_here", "_law_name", "_law_value"] f fd) (T : Txt K mg) : FnOk P w K mg base CX0 1 f fd ["_law_coder_here", "_law_name", "_law_value"] (spSign K) := by
  refine g.F.ok scSign (fun vs H Q E h => ?_) (fun cdv A outer s H vs Q E hr h => ?_)
  · obtain ⟨q, dn, g, L, s, o, rfl, _⟩ := h
    rfl
  · obtain ⟨q, dn, g, L, s, o, rfl, ⟨h1, h2, nqd, hT⟩, ok, hl, k⟩ := h
    have hu := hu_of hr
    have nd := scSign.nd
    refine ⟨_, Evl.pss_cut (ps_set (i := 3) nd rfl (Or.inl rfl) (pe_ifExp (pt_cmpR op_isN (pv 1) pe_non (nomark _)) pe_int (pe_dget2 hu (pe_dget hu (pv 0) pe_str (fun _ _ => rfl)) (pv 1) pe_int ⟨by rfl, by rfl, by rfl, by rfl⟩)))
      (pss_cons (ps_set (i := 4) nd rfl (Or.inl rfl) (pe_op op_mul (pe_op op_fdiv (pe_dget hu (pv 0) pe_str (fun _ _ => rfl)) pe_int) (pv 3)))
      (Evl.pss_cut (ps_if (pt_cmpR op_isN (pv 2) pe_non (nomark _)) (pss_one (ps_set (i := 2) nd rfl (Or.inl rfl) (pe_callTy call_int1 (by rfl) T.zInt (by decide +kernel) (pa_cons (pe_cmpR op_ge (pe_dget hu (pv 0) pe_str (fun _ _ => rfl)) (pe_op op_add (pe_dget hu (pv 0) pe_str (fun _ _ => rfl)) (pv 4)) (nomark _)) pa_nil)))) pss_nil)
      (pss_cons (ps_daug hu (pv 0) pe_str (pe_op op_mul (pv 4) (pv 2)) in_add (fun _ _ _ => rfl))
      (Evl.pss_cut (ps_dput hu (pv 0) pe_str (pe_ifExp (pt_cmpR op_eq (pv 2) pe_int (nomark _)) (pe_op op_sub (pe_dget hu (pv 0) pe_str (fun _ _ => rfl)) (pv 4)) (pv 4)) rfl)
      (Evl.pss_cut (ps_if (pt_cmpR op_notN (pv 1) pe_non (nomark _)) (Evl.pss_cut (ps_set (i := 5) nd rfl (Or.inl rfl) (pe_ifExp (pt_cmpR op_eq (pv 2) pe_int (nomark _)) (pe_op op_sub pe_int (pe_op op_fdiv (pv 3) pe_int)) (pe_op op_fdiv (pe_op op_sub pe_int (pv 3)) pe_int)))
          (pss_one (ps_dput hu (pe_dget hu (pv 0) pe_str (fun _ _ => rfl)) (pv 1) (pe_op op_add (pv 3) (pv 5)) rfl))) pss_nil)
      (pss_cons (ps_while PassesOwn.never (pt_cmpR op_lt (pe_dget hu (pv 0) pe_str (fun _ _ => rfl)) (pe_op op_pow pe_int pe_int) (nomark _))
        (pss_cons (ps_daug hu (pv 0) pe_str pe_int in_mul (fun _ _ _ => rfl)) (pss_cons (ps_daug hu (pv 0) pe_str pe_int in_mul (fun _ _ _ => rfl)) (pss_cons (ps_daug hu (pv 0) pe_str pe_int in_add (fun _ _ _ => rfl))
        (pss_one (ps_if (pt_cmpR op_notN (pe_dget hu (pv 0) pe_str (fun _ _ => rfl)) pe_non (nomark _))
          (pss_cons (ps_par (i := 6) (j := 7) (by rfl) nd rfl rfl (by decide) rfl rfl (pa_cons (pe_dget hu (pv 0) pe_str (fun _ _ => rfl)) (pa_cons (pe_op op_add (pe_dget hu (pv 0) pe_str (fun _ _ => rfl)) pe_int) pa_nil)) (by rfl))
          (pss_one (ps_dput hu (pv 0) pe_str (pe_op op_add (pe_op op_mul (pe_dget hu (pv 0) pe_str (fun _ _ => rfl)) pe_int) (pe_ifExp (pt_cmpR op_lt (pv 7) (pe_callB call_len_seq (by rfl) T.zLen PySem.boot_len (pa_cons (pv 6) pa_nil)) (nomark _)) (pe_ix ix_tup (pv 6) (pv 7) (fun _ _ => rfl)) pe_int)) rfl))) pss_nil))))))
      (pss_one (ps_ret (pv 2))))))))), ?_⟩
    have hc := sgC_ok ok o
    generalize hcc : sgC s o = c at *
    generalize hv : dec L s c = v at *
    have h01 : v = 0 ∨ v = 1 := by rw [← hv]; exact dec_01 L s c
    refine ⟨fun σ H' => H' = H ∧ σ = [some (.ref q), some (oV o), some .non, some (.int c), none, none, none, none], ?_, ?_⟩
    · cases o with
      | none => exact ⟨_, rfl, rfl, _, rfl, iteT ⟨rfl, by rw [← hcc]; rfl⟩⟩
      | some x =>
        refine ⟨_, rfl, rfl, _, rfl, iteF ⟨_, rfl, q, _, rfl, dk_get h1 cdk_names, dn, rfl, .inl ⟨_, .of h2⟩, _, rfl, _, DGet.k (k := Sum.inr x) h2, rfl, ?_⟩⟩
        rw [kvs_get, ← hcc]
        rfl
    rintro σ H' ⟨rfl, rfl⟩
    refine ⟨_, rfl, q, _, rfl, dk_get h1 cdk_wide, _, _, rfl, rfl, ⟨by decide, by decide⟩, _, rfl, _, _, rfl, rfl, .inr ⟨by omega, by omega⟩, ?_⟩
    have edec : (if decide (s.low + s.br / 2048 * c ≤ cd L (s.n + 4)) = true then (1 : Int) else 0) = v := by rw [dec_if, hv]
    have hbr := brOf_ge (v := v) ok hc
    have eS : sgS s o v = { nar s (s.br / 2048 * c) v with lrn := sgL s v o } := by unfold sgS; rw [hcc]
    have eL : ∀ x, o = some x → sgL s v o = put s.lrn x (upC c v) := fun x e => by
      subst e
      rw [← hcc]
      rfl
    have eN : o = none → sgL s v o = s.lrn := fun e => by subst e; rfl
    refine ⟨fun σ H2 => H2 = H' ∧ σ = [some (.ref q), some (oV o), some (.int v), some (.int c), some (.int (s.br / 2048 * c)), none, none, none], ?_, ?_⟩
    · refine ⟨_, rfl, rfl, _, rfl, iteT ⟨_, rfl, q, _, rfl, dk_get h1 cdk_code, _, rfl, q, _, rfl, dk_get h1 cdk_low, _, rfl, _, _, rfl, rfl, _, _, rfl, rfl, .inr ⟨_, rfl, rfl, ?_⟩⟩⟩
      rw [← edec]
      rfl
    rintro σ H2 ⟨rfl, rfl⟩
    generalize s.br / 2048 * c = pt at *
    refine ⟨_, rfl, q, _, rfl, dk_get h1 cdk_low, _, rfl, _, rfl, _, _, rfl, rfl, .inr ⟨by omega, by omega⟩, _, _, rfl, rfl, _, dk_put h1 cdk_put_low cdk_len, ?_⟩
    refine ⟨fun σ H3 => σ = [some (.ref q), some (oV o), some (.int v), some (.int c), some (.int pt), none, none, none] ∧ H3 q = some (.dK (cdk (loOf s pt v) (brOf s pt v) (s.n : Int) dn g (cd L (s.n + 4)))) ∧ Kp1 q H2 H3, ?_, ?_⟩
    · refine ⟨_, rfl, rfl, _, rfl, ite2 (fun h => ?_) (fun h => ?_)⟩
      · have e1 : v = 1 := V.int.inj (of_decide_eq_true h)
        refine ⟨_, rfl, q, _, rfl, dk_get upd_same cdk_wide, _, rfl, _, _, rfl, rfl, _, rfl, q, _, rfl, dk_put upd_same cdk_put_wide cdk_len, rfl, ?_, fun b u e hb => by rw [upd_ne hb, upd_ne hb]; exact e⟩
        rw [upd_same]
        unfold loOf brOf
        rw [if_neg (by omega), if_neg (by omega), e1, Int.mul_one]
      · have e0 : v = 0 := by
          rcases h01 with e | e
          · exact e
          · exact absurd (decide_eq_true (by rw [e])) h
        refine ⟨_, rfl, _, rfl, q, _, rfl, dk_put upd_same cdk_put_wide cdk_len, rfl, ?_, fun b u e hb => by rw [upd_ne hb, upd_ne hb]; exact e⟩
        rw [upd_same]
        unfold loOf brOf
        rw [if_pos e0, if_pos e0, e0, Int.mul_zero, Int.add_zero]
    rintro σ H3 ⟨rfl, g1, kp1⟩
    have g2 : H3 dn = some (.dK (kvs s.lrn)) := kp1 _ _ h2 nqd.symm
    refine ⟨fun σ H4 => (∃ v5, σ = [some (.ref q), some (oV o), some (.int v), some (.int c), some (.int pt), v5, none, none]) ∧ H4 q = some (.dK (cdk (loOf s pt v) (brOf s pt v) (s.n : Int) dn g (cd L (s.n + 4)))) ∧ H4 dn = some (.dK (kvs (sgL s v o))) ∧ Kp q dn H2 H4, ?_, ?_⟩
    · cases o with
      | none => exact ⟨_, rfl, rfl, _, rfl, iteF ⟨⟨none, rfl⟩, g1, g2, fun b u e hb _ => kp1 b u e hb⟩⟩
      | some x =>
        refine ⟨_, rfl, rfl, _, rfl, iteT ?_⟩
        refine ⟨fun σ H4 => H4 = H3 ∧ σ = [some (.ref q), some (.str x), some (.int v), some (.int c), some (.int pt), some (.int (upC c v - c)), none, none], ?_, ?_⟩
        · refine ⟨_, rfl, rfl, _, rfl, ite2 (fun h => ?_) (fun h => ?_)⟩
          · have e1 : v = 1 := V.int.inj (of_decide_eq_true h)
            refine ⟨_, rfl, _, _, rfl, rfl, ⟨by decide, by decide⟩, _, _, rfl, rfl, rfl, ?_⟩
            have : upC c v - c = 0 - c / 32 := by unfold upC; rw [if_neg (by omega)]; omega
            rw [this]
            rfl
          · have e0 : v = 0 := by
              rcases h01 with e | e
              · exact e
              · exact absurd (decide_eq_true (by rw [e])) h
            refine ⟨_, rfl, _, _, rfl, rfl, _, _, rfl, rfl, ⟨by decide, by decide⟩, rfl, ?_⟩
            have : upC c v - c = (2048 - c) / 32 := by unfold upC; rw [if_pos e0]; omega
            rw [this]
            rfl
        rintro σ H4 ⟨rfl, rfl⟩
        refine ⟨_, rfl, _, rfl, _, _, rfl, rfl, _, rfl, q, _, rfl, dk_get g1 cdk_names, _, rfl, dn, _, rfl, DPut.k (k := Sum.inr x) g2 (by rw [kvs_len]; exact small1000 hl), ⟨_, rfl⟩, ?_, ?_, ?_⟩
        · rw [upd_ne nqd]
          exact g1
        · rw [upd_same, kvs_put, eL x rfl, show c + (upC c v - c) = upC c v by omega]
        · exact Kp.upd2 fun b u e hb _ => kp1 b u e hb
    rintro σ H4 ⟨⟨v5, rfl⟩, f1, f2, kp2⟩
    have fT : SqT K H4 g (L.map V.int) := kp_tupD kp2 h1 h2 hT
    refine ⟨fun m σ H5 => (∃ v6 v7, σ = [some (.ref q), some (oV o), some (.int v), some (.int c), some (.int pt), v5, v6, v7]) ∧ H5 dn = some (.dK (kvs (sgL s v o))) ∧ Kp q dn H2 H5 ∧
      ((m = 1 ∧ H5 q = some (.dK (cdk (loOf s pt v) (brOf s pt v) (s.n : Int) dn g (cd L (s.n + 4))))) ∨
       (m = 0 ∧ H5 q = some (.dK (cdk (nar s pt v).low (nar s pt v).br ((nar s pt v).n : Int) dn g (cd L ((nar s pt v).n + 4)))) ∧ ¬ (nar s pt v).br < 16777216)), ⟨1, ⟨none, none, rfl⟩, f2, kp2, .inl ⟨rfl, f1⟩⟩, ?_⟩
    rintro m σ H5 ⟨⟨v6, v7, rfl⟩, d2, kp3, wd⟩
    have dT : SqT K H5 g (L.map V.int) := kp_tupD kp3 h1 h2 hT
    rcases wd with ⟨rfl, d1⟩ | ⟨rfl, d1, hn⟩
    · refine ⟨_, rfl, q, _, rfl, dk_get d1 cdk_wide, _, _, rfl, rfl, ⟨by decide, by decide, by decide⟩, _, _, rfl, rfl, _, rfl, ite2 (fun h => ?_) (fun h => ?_)⟩
      · have hlt : brOf s pt v < 16777216 := of_decide_eq_true h
        have en := nar_yes hlt
        refine ⟨_, fun σ' H6 h6 => h6, ?_⟩
        refine ⟨_, rfl, q, _, rfl, dk_get d1 cdk_low, _, _, rfl, rfl, .inr ⟨by decide, by decide⟩, _, dk_put d1 cdk_put_low cdk_len, ?_⟩
        refine ⟨_, rfl, q, _, rfl, dk_get upd_same cdk_wide, _, _, rfl, rfl, .inr ⟨by decide, by decide⟩, _, dk_put upd_same cdk_put_wide cdk_len, ?_⟩
        refine ⟨_, rfl, q, _, rfl, dk_get upd_same cdk_n, _, _, rfl, rfl, _, dk_put upd_same cdk_put_n cdk_len, ?_⟩
        rw [upd_upd, upd_upd]
        refine ⟨_, rfl, q, _, rfl, dk_get upd_same cdk_letters, rfl, _, rfl, iteT ?_⟩
        refine ⟨_, rfl, q, _, rfl, dk_get upd_same cdk_letters, _, rfl, q, _, rfl, dk_get upd_same cdk_n, _, _, rfl, rfl, _, _, rfl, ?_⟩
        refine ⟨_, rfl, q, _, rfl, dk_get upd_same cdk_code, _, _, rfl, rfl, .inr ⟨by decide, by decide⟩, ?_⟩
        refine getor (k := s.n + 4) rfl ?_ (sqT_dk d1 (fun b u e hb => by rw [upd_ne hb]; exact e) dT) ?_
        · show some (some (V.int ((s.n : Int) + 1 + 3))) = _
          rw [show (s.n : Int) + 1 + 3 = ((s.n + 4 : Nat) : Int) by omega]
        refine ⟨_, _, rfl, rfl, _, rfl, q, _, rfl, dk_put upd_same cdk_put_code cdk_len, ?_⟩
        rw [upd_upd]
        refine ⟨0, by decide, ⟨_, _, rfl⟩, by rw [upd_ne nqd.symm]; exact d2, kp3.upd1, .inr ⟨rfl, ?_, ?_⟩⟩
        · rw [upd_same, en]
          show some (HO.dK (cdk (loOf s pt v * 256) (brOf s pt v * 256) ((s.n : Int) + 1) dn g (cd L (s.n + 4) * 256 + L.getD (s.n + 4) 0))) = some (HO.dK (cdk (loOf s pt v * 256) (brOf s pt v * 256) ((s.n + 1 : Nat) : Int) dn g (cd L (s.n + 1 + 4))))
          rw [show s.n + 1 + 4 = (s.n + 4) + 1 by omega]
          rfl
        · rw [en]
          show ¬ brOf s pt v * 256 < 16777216
          omega
      · have hlt : ¬ brOf s pt v < 16777216 := fun z => h (decide_eq_true z)
        have en := nar_no hlt
        refine ⟨_, rfl, k H5 ⟨?_, ?_, nqd, dT⟩ kp3⟩
        · rw [eS, en]; exact d1
        · rw [eS]; exact d2
    · refine ⟨_, rfl, q, _, rfl, dk_get d1 cdk_wide, _, _, rfl, rfl, ⟨by decide, by decide, by decide⟩, _, _, rfl, rfl, _, rfl, ite2 (fun h => ?_) (fun h => ?_)⟩
      · exact absurd (of_decide_eq_true h) hn
      · refine ⟨_, rfl, k H5 ⟨?_, ?_, nqd, dT⟩ kp3⟩
        · rw [eS]; exact d1
        · rw [eS]; exact d2
end
end K11
namespace K11
open PySem L2
theorem rdK_len {L : List Int} {f : Nat → Str} : ∀ (d k : Nat) (s : St0), (rdK L f d k s).2.lrn.length ≤ s.lrn.length + d
  | 0, _, _ => Nat.le_refl _
  | d + 1, k, s => by
    unfold rdK
    split
    · have h1 := rdK_len (L := L) (f := f) d (k + 1) (bitS s (f k) 1)
      have h2 := bit_len s (f k) 1
      omega
    · have h2 := bit_len s (f k) (dec L s (look s.lrn (f k)))
      show (bitS s (f k) (dec L s (look s.lrn (f k)))).lrn.length ≤ _
      omega
theorem eS_lrn {L : List Int} {s : St0} : ∀ j, (eS L j s).2.lrn = s.lrn
  | 0 => rfl
  | j + 1 => (ev_lrn _ _).trans (eS_lrn j)
theorem KcAt.keep {K : PySem.W.Frag} {H H' : Hp} {q dn g l : Addr} {L : List Int} {s : St0} {xs : List V} (c : KcAt K H q dn g L s) (k : Kp q dn H H') (h : H l = some (.lst xs)) : H' l = some (.lst xs) :=
  k _ _ h (ne_of h c.ob (by intro z; cases z)) (ne_of h c.nm (by intro z; cases z))
section
variable {P : Program} {w : World} {K : PySem.W.Frag} {mg : Str → Option Value} {base : Heap}
/-! ### _law_number -/
def spNumK (K : PySem.W.Frag) : Sp := fun vs H Q _ => ∃ (q dn g : Addr) (L : List Int) (s : St0) (x : Str) (m : Nat), vs = [.ref q, .str x, .non, .int (m : Int)] ∧ m ≤ 8190 ∧ x.length ≤ 20 ∧ KcAt K H q dn g L s ∧ Ok s ∧ s.lrn.length ≤ 900 ∧
  ∀ H', KcAt K H' q dn g L (rdNum L (nk x) m s).2 → Kp q dn H H' → Q (.int (rdNum L (nk x) m s).1) H'
theorem scNumK : FnScope ["_law_coder_here", "_law_name", "_law_n", "_law_most", "_law_many", "_law_k", "_law_going", "_law_wanted", "_law_signs", "_law_rest", "_law_at", "_law_found", "_law_sign_here"] ["_law_coder_here", "_law_name", "_law_n", "_law_most"] (defScope lNumber) :=
  ⟨rfl, rfl, rfl, by decide +kernel, rfl, by decide +kernel, by decide +kernel⟩
/-- name + ' ' + str(k) -/
theorem plus_args {σ : L2.St} {H : Hp} {i j : Nat} {x : Str} {k : Nat} {tr : TA} {Q : List V → Hp → Prop} (hi : σ[i]? = some (some (.str x))) (hj : σ[j]? = some (some (.int (k : Int)))) (hx : x.length ≤ 20) (hk : k ≤ 12)
    (q : tr σ H fun xs H2 => Q (.str (nk x k) :: xs) H2) : tCons (tOp (fun x y H Q => ∃ i j, x = .str i ∧ y = .str j ∧ i.length + j.length ≤ sizeLine ∧ Q (.str (i ++ j)) H) (tOp (fun x y H Q => ∃ i j, x = .str i ∧ y = .str j ∧ i.length + j.length ≤ sizeLine ∧ Q (.str (i ++ j)) H) (tVar i) (tC (.str " ")))
      (tCB (fun xs H Q => ∃ i, xs = [.int i] ∧ i.natAbs.log2 < 1920 ∧ Q (.str (toString i)) H) (tCons (tVar j) tNil))) tr σ H Q := by
  have ht := ts_len k hk
  have hs := sp_len
  refine ⟨_, hi, x, " ", rfl, rfl, ?_, _, hj, (k : Int), rfl, ?_, _, _, rfl, rfl, ?_, q⟩
  · rw [hs]
    exact Nat.le_trans (by omega : _ ≤ 21) (by decide)
  · have : ((k : Int)).natAbs.log2 ≤ k := by
      rw [Int.natAbs_natCast]
      exact Nat.log2_le_self k
    omega
  · rw [str_len, hs]
    exact Nat.le_trans (by omega : _ ≤ 23) (by decide)
theorem ok_numK {f : Addr} {fd : FuncData} (g : GDef K mg "_law_number" lNumber ["_law_coder_here", "_law_name", "_law_n", "_law_most"] f fd) (T : Txt K mg) (cP : Cal P w K mg base 1 "_law_power" spSigns) (cS : Cal P w K mg base 1 "_law_sign" (spSign K)) :
    FnOk P w K mg base CX0 2 f fd ["_law_coder_here", "_law_name", "_law_n", "_law_most"] (spNumK K) := by
  refine g.F.ok scNumK (fun vs H Q E h => ?_) (fun cdv A outer s H vs Q E hr h => ?_)
  · obtain ⟨q, dn, g, L, s, x, m, rfl, _⟩ := h
    rfl
  · obtain ⟨q, dn, gg, L, s, x, m, rfl, hm, hx, c0, o, hl, k⟩ := h
    have hg12 := log12 hm
    have nd := scNumK.nd
    refine ⟨_, pss_cons (ps_par3 (i := 4) (j := 5) (l := 6) (by rfl) nd rfl rfl rfl (by decide) (by decide) (by decide) rfl rfl rfl (pa_cons (pe_ifExp (pt_cmpR op_isN (pv 2) pe_non (nomark _)) (pe_un un_neg pe_int) (pe_g cP hr (by decide) (pa_cons (pe_op op_add (pv 2) pe_int) pa_nil))) (pa_cons pe_int (pa_cons pe_bl pa_nil))) (by rfl))
      (Evl.pss_cut (ps_while PassesOwn.never (PW.pt (pw_and (pt_val (pv 6)) (pw_and1 (pt_cmpR op_lt (pv 5) (pe_g cP hr (by decide) (pa_cons (pe_op op_add (pv 3) pe_int) pa_nil)) (nomark _)))))
        (pss_cons (ps_set (i := 7) nd rfl (Or.inl rfl) (pe_ifExp (pt_cmpR op_isN (pv 2) pe_non (nomark _)) pe_non (pe_callTy call_int1 (by rfl) T.zInt (by decide +kernel) (pa_cons (pe_cmpR op_lt (pv 5) (pv 4) (nomark _)) pa_nil))))
        (pss_cons (ps_set (i := 6) nd rfl (Or.inl rfl) (pe_cmpR op_eq (pe_g cS hr (by decide) (pa_cons (pv 0) (pa_cons (pe_op op_add_str (pe_op op_add_str (pv 1) pe_str) (pe_callTy call_str_int (by rfl) T.zStr (by decide +kernel) (pa_cons (pv 5) pa_nil))) (pa_cons (pv 7) pa_nil)))) pe_int (nomark _)))
        (pss_one (ps_aug (i := 5) nd rfl (Or.inl rfl) (pe_callTy call_int1 (by rfl) T.zInt (by decide +kernel) (pa_cons (pv 6) pa_nil)) ip_add)))))
      (pss_cons (ps_par (i := 8) (j := 9) (by rfl) nd rfl rfl (by decide) rfl rfl (pa_cons (pe_lst pa_nil) (pa_cons (pe_ifExp (pt_cmpR op_isN (pv 2) pe_non (nomark _)) pe_int (pe_op op_add (pv 2) pe_int)) pa_nil)) (by rfl))
      (Evl.pss_cut (ps_for PassesOwn.never rfl (pi_range1 rfl T.zRange (pa_cons (pv 5) pa_nil)) (pg_name (i := 10) nd rfl (Or.inl rfl))
        (pss_cons (ps_expr (pe_bm PySem.F.plainAttrs_list PySem.F.slot_list_append PySem.F.type_list_append mt_append (pv 8) (pa_cons (pe_ifExp (pt_cmpR op_isN (pv 2) pe_non (nomark _)) pe_non (pe_op op_mod (pv 9) pe_int)) pa_nil)))
          (pss_one (ps_set (i := 9) nd rfl (Or.inl rfl) (pe_op op_fdiv (pv 9) pe_int)))))
      (pss_cons (ps_set (i := 11) nd rfl (Or.inl rfl) pe_int)
      (pss_cons (ps_for PassesOwn.never rfl (pi_list (pe_revL (pv 8))) (pg_name (i := 12) nd rfl (Or.inl rfl))
        (pss_one (ps_set (i := 11) nd rfl (Or.inl rfl) (pe_op op_add (pe_op op_mul pe_int (pv 11)) (pe_g cS hr (by decide) (pa_cons (pv 0) (pa_cons pe_non (pa_cons (pv 12) pa_nil))))))))
      (pss_one (ps_ret (pe_callB (call_min2 rfl) (by rfl) T.zMin (by decide +kernel) (pa_cons (pe_op op_sub (pv 11) pe_int) (pa_cons (pv 3) pa_nil)))))))))), ?_⟩
    refine ⟨_, rfl, rfl, _, rfl, iteT ⟨_, rfl, _, _, _, rfl, ?_⟩⟩
    generalize hg : (m + 1).log2 = gr at *
    have hR := rdK_le (L := L) (f := nk x) gr 0 s
    have hRo := rdK_ok (L := L) (f := nk x) gr 0 o
    have hRl := rdK_len (L := L) (f := nk x) gr 0 s
    have hN : rdNum L (nk x) m s = (min ((eS L (rdK L (nk x) gr 0 s).1 (rdK L (nk x) gr 0 s).2).1 - 1) (m : Int), (eS L (rdK L (nk x) gr 0 s).1 (rdK L (nk x) gr 0 s).2).2) := by
      unfold rdNum
      rw [hg]
    refine ⟨fun σ H' => (∃ v6 v7, σ = [some (.ref q), some (.str x), some .non, some (.int (m : Int)), some (.int (-1)), some (.int ((rdK L (nk x) gr 0 s).1 : Int)), v6, v7, none, none, none, none, none]) ∧ KcAt K H' q dn gg L (rdK L (nk x) gr 0 s).2 ∧ Kp q dn H H', ?_, ?_⟩
    · refine ⟨fun z σ H' => ∃ (j : Nat) (s1 : St0) (go : Bool) (v7 : Option V), σ = [some (.ref q), some (.str x), some .non, some (.int (m : Int)), some (.int (-1)), some (.int (j : Int)), some (.bl go), v7, none, none, none, none, none] ∧ KcAt K H' q dn gg L s1 ∧ Ok s1 ∧ Kp q dn H H' ∧
        ((go = true ∧ j ≤ gr ∧ z = gr - j + 1 ∧ s1.lrn.length ≤ s.lrn.length + j ∧ rdK L (nk x) gr 0 s = rdK L (nk x) (gr - j) j s1) ∨ (go = false ∧ z = 0 ∧ rdK L (nk x) gr 0 s = (j, s1))), ⟨gr - 0 + 1, 0, s, true, none, rfl, c0, o, Kp.refl q dn H, .inl ⟨rfl, Nat.zero_le _, rfl, by omega, rfl⟩⟩, ?_⟩
      rintro z σ H' ⟨j, s1, go, v7, rfl, c1, o1, k1, wd⟩
      rcases wd with ⟨rfl, hj, rfl, l1, e1⟩ | ⟨rfl, rfl, e1⟩
      · refine ⟨_, rfl, _, rfl, iteT ⟨_, rfl, _, rfl, _, _, rfl, rfl, _, rfl, ?_⟩⟩
        rw [show ((m : Int) + 1).toNat = m + 1 by omega, hg]
        refine ⟨_, _, rfl, rfl, _, rfl, ite2 (fun h => ?_) (fun h => ?_)⟩
        · have hlt : j < gr := by have := of_decide_eq_true h; omega
          obtain ⟨dd, hdd⟩ : ∃ dd, gr - j = dd + 1 := ⟨gr - j - 1, by omega⟩
          have e2 : rdK L (nk x) gr 0 s = (if dec L s1 (look s1.lrn (nk x j)) = 1 then rdK L (nk x) dd (j + 1) (bitS s1 (nk x j) 1) else (j, bitS s1 (nk x j) (dec L s1 (look s1.lrn (nk x j))))) := by
            rw [e1, hdd]; rfl
          refine ⟨_, fun σ' H3 h3 => h3, ?_⟩
          refine ⟨_, rfl, rfl, _, rfl, iteT ?_⟩
          refine ⟨_, rfl, ?_⟩
          refine plus_args (k := j) rfl rfl hx (by omega) ?_
          refine ⟨_, rfl, q, dn, gg, L, s1, some (nk x j), rfl, c1, o1, by omega, fun H2 c2 k2 => ⟨rfl, ?_⟩⟩
          rw [sgS_some] at c2
          change KcAt K H2 q dn gg L (bitS s1 (nk x j) (dec L s1 (look s1.lrn (nk x j)))) at c2
          rcases dec_01 L s1 (look s1.lrn (nk x j)) with hv | hv
          · refine ⟨_, rfl, _, rfl, .inr ⟨false, ?_, _, _, rfl, rfl, ?_⟩⟩
            · show [V.bl (decide (V.int (dec L s1 (look s1.lrn (nk x j))) = V.int 1))] = _
              rw [hv]
              rfl
            refine ⟨0, by omega, j, bitS s1 (nk x j) 0, false, some .non, ?_, by rw [hv] at c2; exact c2, bit_ok o1 _ _, k1.trans k2, .inr ⟨rfl, rfl, ?_⟩⟩
            · show [some (V.ref q), some (V.str x), some V.non, some (V.int (m : Int)), some (V.int (-1)), some (V.int ((j : Int) + 0)), some (V.bl (decide (V.int (dec L s1 (look s1.lrn (nk x j))) = V.int 1))), some V.non, none, none, none, none, none] = _
              rw [hv, Int.add_zero]
              rfl
            · rw [e2, if_neg (by omega), hv]
          · refine ⟨_, rfl, _, rfl, .inr ⟨true, ?_, _, _, rfl, rfl, ?_⟩⟩
            · show [V.bl (decide (V.int (dec L s1 (look s1.lrn (nk x j))) = V.int 1))] = _
              rw [hv]
              rfl
            refine ⟨gr - (j + 1) + 1, by omega, j + 1, bitS s1 (nk x j) 1, true, some .non, ?_, by rw [hv] at c2; exact c2, bit_ok o1 _ _, k1.trans k2, .inl ⟨rfl, hlt, rfl, ?_, ?_⟩⟩
            · show [some (V.ref q), some (V.str x), some V.non, some (V.int (m : Int)), some (V.int (-1)), some (V.int ((j : Int) + 1)), some (V.bl (decide (V.int (dec L s1 (look s1.lrn (nk x j))) = V.int 1))), some V.non, none, none, none, none, none] = _
              rw [hv]
              rfl
            · have := bit_len s1 (nk x j) 1; omega
            · rw [e2, if_pos hv, show gr - (j + 1) = dd by omega]
        · have he : j = gr := by
            have : ¬ (j : Int) < (gr : Int) := fun q => h (decide_eq_true q)
            omega
          subst he
          rw [Nat.sub_self] at e1
          have e2 : rdK L (nk x) j 0 s = (j, s1) := e1
          rw [e2]
          exact ⟨⟨_, _, rfl⟩, c1, k1⟩
      · refine ⟨_, rfl, _, rfl, iteF ?_⟩
        rw [e1]
        exact ⟨⟨_, _, rfl⟩, c1, k1⟩
    rintro σ H1 ⟨⟨v6, v7, rfl⟩, c1, k1⟩
    generalize rdK L (nk x) gr 0 s = R at *
    obtain ⟨j, s1⟩ := R
    refine ⟨Nat.zero_le _, fun l hl => ⟨_, rfl, rfl, _, rfl, iteT ⟨_, _, rfl, ?_⟩⟩⟩
    refine ⟨fun σ H' => (∃ v9 v10, σ = [some (.ref q), some (.str x), some .non, some (.int (m : Int)), some (.int (-1)), some (.int (j : Int)), v6, v7, some (.ref l), v9, v10, none, none]) ∧ Same H1 H' ∧ H' l = some (.lst (List.replicate j .non)), ?_, ?_⟩
    · refine ⟨_, rfl, (j : Int), rfl, by show -(2 ^ 62) ≤ (j : Int); omega, by show (j : Int) < 2 ^ 62; omega, for_range (n := j) (fun i σ H' => (∃ (z9 : Int) (v10 : Option V), σ = [some (.ref q), some (.str x), some .non, some (.int (m : Int)), some (.int (-1)), some (.int (j : Int)), v6, v7, some (.ref l), some (.int z9), v10, none, none]) ∧ Same H1 H' ∧ H' l = some (.lst (List.replicate i .non)))
        ⟨⟨0, none, rfl⟩, same_new hl, upd_same⟩ ?_ ?_⟩
      · rintro i σ H' hi ⟨⟨z9, v10, rfl⟩, s1', hL⟩
        refine ⟨_, rfl, .inl ⟨rfl, _, SqL.of hL⟩, _, rfl, rfl, _, rfl, iteT ⟨l, _, _, rfl, rfl, hL, by rw [List.length_replicate]; exact small1000 (by omega), ?_⟩⟩
        refine ⟨_, rfl, _, _, rfl, rfl, ⟨by decide, by decide⟩, ⟨_, _, rfl⟩, same_mut s1' hl, ?_⟩
        rw [upd_same, List.replicate_succ']
      · rintro σ H' ⟨⟨z9, v10, rfl⟩, s1', hL⟩
        exact ⟨⟨_, _, rfl⟩, s1', hL⟩
    rintro σ H2 ⟨⟨v9, v10, rfl⟩, s12, hL⟩
    have c2 := c1.same s12
    refine ⟨_, rfl, l, _, rfl, SqL.of hL, fun a ha => ?_⟩
    refine ⟨a, rfl, ⟨_, SqL.of upd_same⟩, ?_⟩
    have k2 : Kp q dn H (upd H2 a (.lst (List.replicate j V.non).reverse)) := k1.trans (.same (s12.trans (same_new ha)))
    refine for_list (K := K) (a := a) (xs := (List.replicate j V.non).reverse) (fun i σ H' => (∃ v12, σ = [some (.ref q), some (.str x), some .non, some (.int (m : Int)), some (.int (-1)), some (.int (j : Int)), v6, v7, some (.ref l), v9, v10, some (.int (eS L i s1).1), v12]) ∧
      KcAt K H' q dn gg L (eS L i s1).2 ∧ Kp q dn H H' ∧ H' a = some (.lst (List.replicate j V.non).reverse)) ⟨⟨none, rfl⟩, c2.same (same_new ha), k2, upd_same⟩ (fun i σ H' _ ⟨_, _, _, h⟩ => SqL.of h) ?_ ?_
    · rintro i y σ H' hy ⟨⟨v12, rfl⟩, c3, k3, h3⟩
      have hyn : y = .non := by
        have := List.mem_of_getElem? hy
        rw [List.mem_reverse] at this
        exact (List.mem_replicate.mp this).2
      subst hyn
      refine ⟨_, rfl, _, _, rfl, rfl, .inl ⟨by decide, by decide⟩, _, rfl, _, rfl, q, dn, gg, L, _, none, rfl, c3, eS_ok hRo i, ?_, fun H4 c4 k4 => ⟨_, _, rfl, rfl, ⟨_, rfl⟩, ?_, k3.trans k4, c3.keep k4 h3⟩⟩
      · rw [eS_lrn]
        show s1.lrn.length ≤ 1000
        have hRl : s1.lrn.length ≤ s.lrn.length + gr := hRl
        omega
      · rw [sgS_none] at c4
        exact c4
    · have hlen : (List.replicate j V.non).reverse.length = j := by rw [List.length_reverse, List.length_replicate]
      rintro σ H' ⟨⟨v12, rfl⟩, c3, k3, h3⟩
      rw [hlen] at c3
      refine ⟨_, rfl, _, _, rfl, rfl, _, rfl, _, _, rfl, ?_⟩
      rw [hlen]
      have := k H' (by rw [hN]; exact c3) k3
      rw [hN] at this
      have e : (if (m : Int) < (eS L j s1).1 - 1 then (m : Int) else (eS L j s1).1 - 1) = min ((eS L j s1).1 - 1) (m : Int) := by
        split <;> omega
      rw [e]
      exact this
end
end K11
namespace K11
open PySem L2
/-! ### the names that are met -/
def NL : List Str := bases ++ bases.flatMap fun b => (List.range 12).map (nk b)
theorem nl_len : NL.length = 52 := by decide +kernel
theorem nl_ok : ∀ x ∈ NL, PyData.strOk x = true := by decide +kernel
theorem bases_len : ∀ x ∈ bases, x.length ≤ 20 := by decide +kernel
theorem known_of : ∀ {a : Ask Str}, Known a → a.known nk NL
  | .ev, _ => True.intro
  | .bit x, h => List.mem_append_left _ h
  | .num x m, h => ⟨h.2, fun i hi => List.mem_append_right _ (List.mem_flatMap.mpr ⟨x, h.1, List.mem_map.mpr ⟨i, List.mem_range.mpr hi, rfl⟩⟩)⟩
theorem small_of : ∀ {a : Ask Str}, Known a → a.small
  | .ev, _ => True.intro
  | .bit x, _ => True.intro
  | .num x m, h => h.2
theorem kn52 {l : List (Str × Int)} (h : Kn NL l) : l.length ≤ 52 := by
  have := kn_length h
  rw [nl_len] at this
  exact this
theorem wrs_snoc (ps : List (Ask Str × Int)) (a : Ask Str) (v : Int) (s : St0) : wrs nk (ps ++ [(a, v)]) s = wr nk (wrs nk ps s) a v := wrs_append nk ps [(a, v)] s
theorem StOk.kp {H H' : Hp} {q c p d : Addr} {ns : List Int} (h : StOk H q c ns) (k : Kp p d H H') (h1 : q ≠ p) (h2 : q ≠ d) (h3 : c ≠ p) (h4 : c ≠ d) : StOk H' q c ns := by
  obtain ⟨l, a, e1, e2⟩ := h
  exact ⟨l, a, k _ _ e1 h1 h2, k _ _ e2 h3 h4⟩
theorem CAt.kp1 {C : Addr} {F : Fam} (fo : FamOk F) {H H' : Hp} {p d q : Addr} {s : St0} {ks : List (Key × V)} (c : CAt C F H p d s) (hq : H q = some (.dK ks)) (k : Kp1 q H H') (hd : d ≠ q) : CAt C F H' p d s := by
  obtain ⟨Tn, f, ⟨⟨dx, h1⟩, h2⟩⟩ := c
  refine ⟨Tn, fo.keep f fun a ys r => ?_, ⟨dx, k _ _ h1 (ne_of h1 hq (by intro z; cases z))⟩, k _ _ h2 hd⟩
  rcases r with r | ⟨o, r⟩
  · exact .inl (k _ _ r (ne_of r hq (by intro z; cases z)))
  · exact .inr ⟨o, k _ _ r (ne_of r hq (by intro z; cases z))⟩
theorem CAt.lst {C : Addr} {F : Fam} (fo : FamOk F) {H : Hp} {p d l : Addr} {s : St0} {xs ys : List V} (c : CAt C F H p d s) (hl : H l = some (.lst xs)) : CAt C F (upd H l (.lst ys)) p d s := by
  obtain ⟨Tn, f, ⟨⟨dx, h1⟩, h2⟩⟩ := c
  have n1 : p ≠ l := ne_of h1 hl (by intro z; cases z)
  have n2 : d ≠ l := ne_of h2 hl (by intro z; cases z)
  refine ⟨Tn, fo.keep f fun a ys r => ?_, ⟨dx, by rw [upd_ne n1]; exact h1⟩, by rw [upd_ne n2]; exact h2⟩
  rcases r with r | ⟨o, r⟩
  · exact .inl (by rw [upd_ne (ne_of r hl (by intro z; cases z))]; exact r)
  · exact .inr ⟨o, by rw [upd_ne (ne_of r hl (by intro z; cases z))]; exact r⟩
section
variable {P : Program} {w : World} {K : PySem.W.Frag} {mg : Str → Option Value} {base : Heap}
/-! ### _law_written -/
def spWritten : Sp := fun vs H Q _ => ∃ (q c a : Addr) (ns : List Int) (ts : List Addr) (as : List (Ask Str)), vs = [.ref q, .ref a] ∧ StOk H q c ns ∧ H a = some (.lst (ts.map V.ref)) ∧ Paired (AskAt H) ts as ∧ as.length ≤ 89 ∧ (∀ x ∈ as, Known x) ∧
  ∀ (r tl vl cc : Addr) (H' : Hp) (L : List Int) (ps : List (Ask Str × Int)) (ys : List Str), StOk H' q c ns → Kp1 q H H' → H r = none → H' r = some (.tup [.ref tl, .ref vl, .ref cc]) → H' tl = some (.tup (L.map V.int)) → H' vl = some (.lst (ps.map fun p => V.int p.2)) →
    H' cc = some (.dK (kvs (srt ys (wrs nk ps cs0).lrn))) → ps.map (·.1) = as → (∀ p ∈ ps, p.1.fits p.2) → Good L → In L (wrs nk ps cs0) → L.length ≤ 2000 → ys.Perm (names (wrs nk ps cs0).lrn) → PyProof.Rows.sortedS ys = true → Q (.ref r) H'
theorem scWritten : FnScope ["_law_state", "_law_asks_here", "_law_writer", "_law_values", "_law_name", "_law_most", "_law_value"] ["_law_state", "_law_asks_here"] (defScope lWritten) := ⟨rfl, rfl, rfl, by decide +kernel, rfl, by decide +kernel, by decide +kernel⟩
theorem ok_written {cW f fi : Addr} {fd fdi : FuncData} (g : GDef K mg "_law_written" lWritten ["_law_state", "_law_asks_here"] f fd) (T : Txt K mg) (M : Mk K cW fi) (hW : mg "Writer" = some (.ref cW)) (gi : MDef K "__init__" "Coder.__init__" sCInit ["self"] fi fdi)
    (FI : FnOk P w K mg base CX0 1 fi fdi ["self"] (spCInit cW)) (cN : Cal P w K mg base 2 "_law_next" spNext) (cP : Cal P w K mg base 3 "_law_pick" (spPick K)) (mN : Met P w K mg base 5 cW "number" (spWNum cW)) (mE : Met P w K mg base 4 cW "even" (spWEven cW))
    (mB : Met P w K mg base 4 cW "bit" (spWBit cW)) (mL : Met P w K mg base 2 cW "letters" (spWLet cW)) (mC : Met P w K mg base 1 cW "chances" (spChances cW)) : FnOk P w K mg base CX0 6 f fd ["_law_state", "_law_asks_here"] spWritten := by
  refine g.F.ok scWritten (fun vs H Q E h => ?_) (fun cdv A outer s H vs Q E hr h => ?_)
  · obtain ⟨q, c, a, ns, ts, as, rfl, _⟩ := h
    rfl
  · obtain ⟨q, c, a, ns, ts, as, rfl, st, hA, pA, hlen, kn, k⟩ := h
    have nd := scWritten.nd
    refine ⟨_, pss_cons (ps_par (i := 2) (j := 3) (by rfl) nd rfl rfl (by decide) rfl rfl (pa_cons (pe_make0 M FI (hr.mono (by decide)) rfl hW gi.b .nil pass0) (pa_cons (pe_lst pa_nil) pa_nil)) (by rfl))
      (pss_cons (ps_for PassesOwn.never rfl (pi_list (pv 1)) (pg_tup rfl (pgs_cons (pg_name (i := 4) nd rfl (Or.inl rfl)) (pgs_cons (pg_name (i := 5) nd rfl (Or.inl rfl)) pgs_nil)))
        (Evl.pss_cut (ps_set (i := 6) nd rfl (Or.inl rfl) (pe_ifExp (pt_cmpR op_isN (pv 5) pe_non (nomark _)) (pe_g cN hr (by decide) (pa_cons (pv 0) (pa_cons pe_int pa_nil)))
            (pe_g cP hr (by decide) (pa_cons (pv 0) (pa_cons (pe_lst (pa_cons pe_int (pa_cons (pv 5) (pa_cons (pe_g cN hr (by decide) (pa_cons (pv 0) (pa_cons (pe_op op_add (pv 5) pe_int) pa_nil))) pa_nil)))) pa_nil)))))
        (Evl.pss_cut (ps_if (pt_cmpR op_notN (pv 5) pe_non (nomark _)) (pss_one (ps_expr (pe_m mN hr (by decide) (pv 2) (pa_cons (pv 4) (pa_cons (pv 6) (pa_cons (pv 5) pa_nil))))))
            (pss_one (ps_if (pt_cmpR op_isN (pv 4) pe_non (nomark _)) (pss_one (ps_expr (pe_m mE hr (by decide) (pv 2) (pa_cons (pv 6) pa_nil)))) (pss_one (ps_expr (pe_m mB hr (by decide) (pv 2) (pa_cons (pv 4) (pa_cons (pv 6) pa_nil)))))))
          )
        (pss_one (ps_expr (pe_bm PySem.F.plainAttrs_list PySem.F.slot_list_append PySem.F.type_list_append mt_append (pv 3) (pa_cons (pv 6) pa_nil)))))))
      (pss_one (ps_ret (pe_tup (pa_cons (pe_callTy call_tuple_of (by rfl) T.zTuple (by decide +kernel) (pa_cons (pe_m0 mL hr (by decide) (pv 2)) pa_nil)) (pa_cons (pv 3) (pa_cons (pe_m0 mC hr (by decide) (pv 2)) pa_nil))))))), ?_⟩
    intro x dx nx ndx nex
    refine ⟨x, dx, rfl, upd_same, fun d H1 hd c1 k1 => ⟨rfl, ?_⟩⟩
    have s1 : Same H H1 := fun b o e => k1 b o (by rw [upd_ne (ne_of_none e nx), upd_ne (ne_of_none e ndx)]; exact e) (ne_of_none e nx)
    have hd0 : H d = none := by
      have n1 : d ≠ x := fun e => by rw [e, upd_same] at hd; cases hd
      rw [upd_ne n1] at hd
      have n2 : d ≠ dx := fun e => by rw [e, upd_same] at hd; cases hd
      rw [upd_ne n2] at hd
      exact hd
    refine ⟨Nat.zero_le _, fun l hl => ⟨_, _, rfl, ?_⟩⟩
    have hl0 : H l = none := s1.free hl
    obtain ⟨left0, at0, e1, e2⟩ := id st
    have nqx := ne_of_none e1 nx
    have nqd := ne_of_none e1 hd0
    have nql := ne_of_none e1 hl0
    have ncx := ne_of_none e2 nx
    have ncd := ne_of_none e2 hd0
    have ncl := ne_of_none e2 hl0
    have s2 := s1.trans (same_new (o := .lst []) hl)
    refine ⟨_, rfl, a, rfl, ⟨_, SqL.of (s2 _ _ hA)⟩, for_list (K := K) (a := a) (xs := ts.map V.ref) (fun i σ H' => ∃ (v4 v5 v6 : Option V) (ps : List (Ask Str × Int)), σ = [some (.ref q), some (.ref a), some (.ref x), some (.ref l), v4, v5, v6] ∧ StOk H' q c ns ∧ CAt cW FamW H' x d (wrs nk ps cs0) ∧
      H' l = some (.lst (ps.map fun p => V.int p.2)) ∧ ps.map (·.1) = as.take i ∧ (∀ p ∈ ps, p.1.fits p.2) ∧ Kp1 q H H')
      ⟨none, none, none, [], rfl, st.same s2, ⟨_, rfl, c1.same (same_new hl)⟩, upd_same, rfl, (fun p h => by cases h), kp1_same s2⟩ (fun i σ H' _ ⟨_, _, _, _, _, _, _, _, _, _, kp⟩ => SqL.of (kp _ _ hA (ne_of hA e1 (by intro z; cases z)))) ?_ ?_⟩
    · rintro i y σ H' hy ⟨v4, v5, v6, ps, rfl, st', cw, hL, hps, hf, kp⟩
      obtain ⟨t, ht, rfl⟩ : ∃ t, ts[i]? = some t ∧ y = V.ref t := by
        rw [List.getElem?_map] at hy
        cases hz : ts[i]? with
        | none => rw [hz] at hy; cases hy
        | some t => rw [hz] at hy; exact ⟨t, rfl, (Option.some.inj hy).symm⟩
      obtain ⟨ak, hak, tA⟩ := LiI.paired_get pA ht
      have kak := kn ak (List.mem_of_getElem? hak)
      have tH : H' t = some (.tup [nmV ak, moV ak]) := kp _ _ tA (ne_of tA e1 (by intro z; cases z))
      have hlp : ps.length ≤ 89 := by
        have := congrArg List.length hps
        rw [List.length_map, List.length_take] at this
        omega
      have kps : ∀ p ∈ ps, p.1.fits p.2 ∧ p.1.known nk NL := fun p hp => ⟨hf p hp, known_of (kn _ (by
        have : p.1 ∈ ps.map (·.1) := List.mem_map.mpr ⟨p, hp, rfl⟩
        rw [hps] at this
        exact List.mem_of_mem_take this))⟩
      have wok : Ok (wrs nk ps cs0) := wrs_ok ps ok0
      have wlen := kn52 (kn_wrs ps (s := cs0) kn0 kps)
      generalize hS : wrs nk ps cs0 = S at *
      refine ⟨t, _, rfl, .inl (.inl tH), rfl, _, _, rfl, _, _, rfl, rfl, ?_⟩
      refine ⟨fun σ H2 => ∃ v : Int, ak.fits v ∧ σ = [some (.ref q), some (.ref a), some (.ref x), some (.ref l), some (nmV ak), some (moV ak), some (.int v)] ∧ StOk H2 q c ns ∧ Kp1 q H' H2, ?_, ?_⟩
      · have two : ∀ r : Int, 0 ≤ r → r < 2 → r = 0 ∨ r = 1 := fun r h0 h1 => by omega
        cases ak with
        | ev => exact ⟨_, rfl, rfl, _, rfl, iteT ⟨_, rfl, q, c, ns, 2, rfl, by decide, by decide, st', fun r H2 r0 r1 st2 kp2 => ⟨r, two r r0 r1, rfl, st2, kp2⟩⟩⟩
        | bit z => exact ⟨_, rfl, rfl, _, rfl, iteT ⟨_, rfl, q, c, ns, 2, rfl, by decide, by decide, st', fun r H2 r0 r1 st2 kp2 => ⟨r, two r r0 r1, rfl, st2, kp2⟩⟩⟩
        | num z m =>
          have hm : m ≤ 8190 := kak.2
          refine ⟨_, rfl, rfl, _, rfl, iteF ⟨_, rfl, _, rfl, _, rfl, _, rfl, _, _, rfl, rfl, q, c, ns, (m : Int) + 1, rfl, by omega, by omega, st', fun r H2 r0 r1 st2 kp2 => ⟨by show 3 ≤ sizeLine; decide, fun l3 hl3 => ?_⟩⟩⟩
          refine ⟨q, c, l3, ns, _, rfl, SqL.of upd_same, by show 0 < 3; decide, by show 3 < 1000; decide, st2.same (same_new hl3), fun j y H3 hy st3 kp3 => ?_⟩
          have hb : ∃ v : Int, 0 ≤ v ∧ v ≤ (m : Int) ∧ y = .int v := by
            have hm2 := List.mem_of_getElem? hy
            simp only [List.mem_cons, List.not_mem_nil, or_false] at hm2
            rcases hm2 with rfl | rfl | rfl
            · exact ⟨0, by omega, by omega, rfl⟩
            · exact ⟨m, by omega, by omega, rfl⟩
            · exact ⟨r, r0, by omega, rfl⟩
          obtain ⟨v, v0, v1, rfl⟩ := hb
          exact ⟨v, ⟨v0, v1⟩, rfl, st3, kp2.trans ((kp1_same (same_new hl3)).trans kp3)⟩
      rintro σ H2 ⟨v, fv, rfl, st2, kp2⟩
      obtain ⟨left1, at1, q1, q2⟩ := id st'
      have cw2 : CAt cW FamW H2 x d S := cw.kp1 famW_ok q1 kp2 nqd.symm
      have hL2 : H2 l = some (.lst (ps.map fun p => V.int p.2)) := kp2 _ _ hL nql.symm
      obtain ⟨dz, fs, g1, g2, gn⟩ := cw2.ob famW_ok
      refine ⟨fun σ H3 => σ = [some (.ref q), some (.ref a), some (.ref x), some (.ref l), some (nmV ak), some (moV ak), some (.int v)] ∧ CAt cW FamW H3 x d (wr nk S ak v) ∧ Kp x d H2 H3, ?_, ?_⟩
      · cases ak with
        | ev => exact ⟨_, rfl, rfl, _, rfl, iteF ⟨_, rfl, rfl, _, rfl, iteT ⟨_, rfl, x, dz, fs, rfl, g1, gn _ (by decide +kernel), _, rfl, x, d, S, v, rfl, fv, cw2, wok, fun H3 c3 k3 => ⟨rfl, c3, k3⟩⟩⟩⟩
        | bit z => exact ⟨_, rfl, rfl, _, rfl, iteF ⟨_, rfl, rfl, _, rfl, iteF ⟨_, rfl, x, dz, fs, rfl, g1, gn _ (by decide +kernel), _, rfl, _, rfl, x, d, S, z, v, rfl, fv, cw2, wok, by omega, fun H3 c3 k3 => ⟨rfl, c3, k3⟩⟩⟩⟩
        | num z m =>
          have fv' : 0 ≤ v ∧ v ≤ (m : Int) := fv
          refine ⟨_, rfl, rfl, _, rfl, iteT ⟨_, rfl, x, dz, fs, rfl, g1, gn _ (by decide +kernel), _, rfl, _, rfl, _, rfl, x, d, S, z, v.toNat, m, ?_, by omega, kak.2, bases_len _ kak.1, cw2, wok, by omega, fun H3 c3 k3 => ⟨rfl, c3, k3⟩⟩⟩
          show [V.ref x, V.str z, V.int v, V.int (m : Int)] = _
          rw [show ((v.toNat : Nat) : Int) = v by omega]
      rintro σ H3 ⟨rfl, cw3, kp3⟩
      have hL3 : H3 l = some (.lst (ps.map fun p => V.int p.2)) := cw2.keep_lst kp3 hL2
      refine ⟨_, rfl, .inl ⟨rfl, _, SqL.of hL3⟩, _, rfl, l, _, _, rfl, rfl, hL3, by rw [List.length_map]; exact small1000 (by omega), ?_⟩
      have st3 := st2.kp kp3 nqx nqd ncx ncd
      obtain ⟨left3, at3, w1, w2⟩ := id st3
      refine ⟨_, _, _, ps ++ [(ak, v)], rfl, ⟨left3, at3, by rw [upd_ne nql]; exact w1, by rw [upd_ne ncl]; exact w2⟩, ?_, ?_, ?_, ?_, ?_⟩
      · rw [wrs_snoc, hS]
        exact cw3.lst famW_ok hL3
      · rw [upd_same, List.map_append]
        rfl
      · rw [List.map_append, hps, List.take_add_one, hak]
        rfl
      · intro p hp
        rcases List.mem_append.mp hp with hp | hp
        · exact hf p hp
        · rw [List.mem_singleton.mp hp]
          exact fv
      · intro b o e hb
        rw [upd_ne (ne_of_none e hl0)]
        exact kp3 b o (kp2 b o (kp b o e hb) hb) (ne_of_none e nx) (ne_of_none e hd0)
    · rintro σ H' ⟨v4, v5, v6, ps, rfl, st', cw, hL, hps, hf, kp⟩
      have hps : ps.map (·.1) = as := by
        rw [hps, List.length_map, Paired.length pA]
        exact List.take_of_length_le (Nat.le_refl _)
      have hlp : ps.length ≤ 89 := by
        have := congrArg List.length hps
        rw [List.length_map] at this
        omega
      have kps : ∀ p ∈ ps, Known p.1 := fun p hp => kn _ (by rw [← hps]; exact List.mem_map.mpr ⟨p, hp, rfl⟩)
      have wok : Ok (wrs nk ps cs0) := wrs_ok ps ok0
      have wkn : Kn NL (wrs nk ps cs0).lrn := kn_wrs ps (s := cs0) kn0 fun p hp => ⟨hf p hp, known_of (kps p hp)⟩
      have wlen := kn52 wkn
      have room := room_small (nk := nk) hlp fun p hp => ⟨hf p hp, small_of (kps p hp)⟩
      generalize hS : wrs nk ps cs0 = S at *
      obtain ⟨dz, fs, g1, g2, gn⟩ := cw.ob famW_ok
      refine ⟨_, rfl, x, dz, fs, rfl, g1, gn _ (by decide +kernel), x, d, S, rfl, cw, wok, room, fun tl H2 L s2 htl h2 good inn len => ⟨tl, _, rfl, .inr ⟨.inl (.inl h2), _, rfl, ?_⟩⟩⟩
      obtain ⟨Tn, hF, ct⟩ := cw.same famW_ok s2
      refine ⟨_, rfl, x, dz, fs, rfl, s2 _ _ g1, gn _ (by decide +kernel), x, d, _, S, rfl, ct, wkn.nd, by omega, fun cc H3 ys s3 hcc perm srtd h3 => ⟨by show 3 ≤ sizeLine; decide, fun r hr0 => ?_⟩⟩
      have sr := same_new (o := .tup [V.ref tl, V.ref l, V.ref cc]) hr0
      have s13 := (s2.trans s3).trans sr
      refine k r tl l cc _ L ps ys (st'.same s13) (kp.trans (kp1_same s13)) ?_ upd_same ((s3.trans sr) _ _ h2) (s13 _ _ hL) (sr _ _ ?_) hps hf good (by rw [hS]; exact inn) len (by rw [hS]; exact perm) srtd
      · cases e : H r with
        | none => rfl
        | some o =>
          by_cases hb : r = q
          · obtain ⟨lf, af, u1, u2⟩ := id st'
            have := (s2.trans s3) q _ u1
            rw [hb] at hr0
            rw [hr0] at this
            cases this
          · have := (s2.trans s3) r _ (kp r o e hb)
            rw [hr0] at this
            cases this
      · rw [hS]
        exact h3
end
end K11
namespace K11
open PySem L2
theorem good_nil : Good [] := fun x h => by cases h
theorem good_append {L M : List Int} (h1 : Good L) (h2 : Good M) : Good (L ++ M) := fun x h => by
  rcases List.mem_append.mp h with h | h
  · exact h1 x h
  · exact h2 x h
theorem good_one {v : Int} (h0 : 0 ≤ v) (h1 : v < 256) : Good [v] := fun x h => by
  rw [List.mem_singleton.mp h]
  omega
/-- a tuple of letters that is new or stood already -/
abbrev LtK (K : PySem.W.Frag) (H : Hp) (b : Nat) (Q : VK) : Prop := ∀ (p : Addr) (H' : Hp) (M : List Int), Same H H' → SqT K H' p (M.map V.int) → Good M → M.length ≤ b → Q (.ref p) H'
theorem nopart {σ : L2.St} {H : Hp} {Q : Option Int → Hp → Prop} (h : Q none H) : tNoPart σ H Q := h
theorem slice_by {K : PySem.W.Frag} {H : Hp} {a : Addr} {L : List Int} {lo hi : Option Int} {Q : VK} (hT : SqT K H a (L.map V.int)) (g : Good L) (q : LtK K H L.length Q) : rSlA K (.ref a) lo hi H Q := by
  refine ⟨a, _, rfl, hT, fun _ => q a H L (Same.refl H) hT g (Nat.le_refl _), fun _ p hp => ?_⟩
  have e : cutV (L.map V.int) lo hi = ((L.drop (HT.sIx (L.map V.int).length 0 lo)).take (HT.sIx (L.map V.int).length (L.map V.int).length hi - HT.sIx (L.map V.int).length 0 lo)).map V.int := by
    unfold cutV
    rw [List.map_take, List.map_drop]
  rw [e]
  refine q p _ _ (same_new hp) (.inl (.inl upd_same)) (fun x hx => g x (List.mem_of_mem_drop (List.mem_of_mem_take hx))) ?_
  rw [List.length_take, List.length_drop]
  omega
theorem cat_by {K : PySem.W.Frag} {H : Hp} {a b : Addr} {L M : List Int} {Q : VK} (hL : SqT K H a (L.map V.int)) (hM : SqT K H b (M.map V.int)) (gL : Good L) (gM : Good M) (hl : L.length + M.length ≤ 10000) (q : LtK K H (L.length + M.length) Q) : rCatA K (.ref a) (.ref b) H Q := by
  refine ⟨a, b, _, _, rfl, rfl, hL, hM, by rw [List.length_map, List.length_map]; exact Nat.le_trans hl (by decide), fun _ => q b H M (Same.refl H) hM gM (by omega), fun _ _ => q a H L (Same.refl H) hL gL (by omega), fun _ _ p hp => ?_⟩
  rw [← List.map_append]
  exact q p _ _ (same_new hp) (.inl (.inl upd_same)) (good_append gL gM) (by rw [List.length_append]; exact Nat.le_refl _)
section
variable {P : Program} {w : World} {K : PySem.W.Frag} {mg : Str → Option Value} {base : Heap}
/-! ### _law_bent -/
def spBent (K : PySem.W.Frag) : Sp := fun vs H Q _ => ∃ (q c a : Addr) (ns : List Int) (L : List Int), vs = [.ref q, .ref a] ∧ StOk H q c ns ∧ SqT K H a (L.map V.int) ∧ Good L ∧ L.length ≤ 2000 ∧
  ∀ (p : Addr) (H' : Hp) (M : List Int), StOk H' q c ns → Kp1 q H H' → SqT K H' p (M.map V.int) → Good M → M.length ≤ 5000 → Q (.ref p) H'
theorem scBent : FnScope ["_law_state", "_law_some", "_law_way", "_law_at", "_law_k"] ["_law_state", "_law_some"] (defScope lBent) := ⟨rfl, rfl, rfl, by decide +kernel, rfl, by decide +kernel, by decide +kernel⟩
theorem ok_bent {f : Addr} {fd : FuncData} (g : GDef K mg "_law_bent" lBent ["_law_state", "_law_some"] f fd) (T : Txt K mg) (cN : Cal P w K mg base 2 "_law_next" spNext) : FnOk P w K mg base CX0 3 f fd ["_law_state", "_law_some"] (spBent K) := by
  refine g.F.ok scBent (fun vs H Q E h => ?_) (fun cdv A outer s H vs Q E hr h => ?_)
  · obtain ⟨q, c, a, ns, L, rfl, _⟩ := h
    rfl
  · obtain ⟨q, c, a, ns, L, rfl, st, hT, gL, hlen, k⟩ := h
    have nd := scBent.nd
    refine ⟨_, pss_cons (ps_par (i := 2) (j := 3) (by rfl) nd rfl rfl (by decide) rfl rfl (pa_cons (pe_g cN hr (by decide) (pa_cons (pv 0) (pa_cons pe_int pa_nil))) (pa_cons (pe_g cN hr (by decide) (pa_cons (pv 0) (pa_cons (pe_op op_add (pe_callB call_len_seq (by rfl) T.zLen PySem.boot_len (pa_cons (pv 1) pa_nil)) pe_int) pa_nil))) pa_nil)) (by rfl))
      (Evl.pss_cut (ps_if (pt_cmpR op_eq (pv 2) pe_int (nomark _)) (pss_one (ps_ret (pe_slice sl_tupA (pv 1) po_none (po_some (pv 3))))) pss_nil)
      (Evl.pss_cut (ps_if (PW.pt (pw_and (pt_cmpR op_eq (pv 2) pe_int (nomark _)) (pw_and1 (pt_cmpR op_lt (pv 3) (pe_callB call_len_seq (by rfl) T.zLen PySem.boot_len (pa_cons (pv 1) pa_nil)) (nomark _)))))
        (pss_one (ps_ret (pe_op op_catA (pe_op op_catA (pe_slice sl_tupA (pv 1) po_none (po_some (pv 3))) (pe_tup (pa_cons (pe_g cN hr (by decide) (pa_cons (pv 0) (pa_cons pe_int pa_nil))) pa_nil))) (pe_slice sl_tupA (pv 1) (po_some (pe_op op_add (pv 3) pe_int)) po_none)))) pss_nil)
      (Evl.pss_cut (ps_if (pt_cmpR op_eq (pv 2) pe_int (nomark _)) (pss_one (ps_ret (pe_op op_catA (pe_op op_catA (pe_slice sl_tupA (pv 1) po_none (po_some (pv 3))) (pe_tup (pa_cons (pe_g cN hr (by decide) (pa_cons (pv 0) (pa_cons pe_int pa_nil))) pa_nil))) (pe_slice sl_tupA (pv 1) (po_some (pv 3)) po_none)))) pss_nil)
      (Evl.pss_cut (ps_if (pt_cmpR op_eq (pv 2) pe_int (nomark _)) (pss_one (ps_ret (pe_callTy call_tuple_of (by rfl) T.zTuple (by decide +kernel) (pa_cons (pe_lc (own := [("_law_k", 4)]) (g := gName 4) (tt := tYes) (te := tCall spNext [] E0 (tCons (tVar 0) (tCons (tC (.int 256)) tNil))) rfl nd
          (pi_range1 rfl T.zRange (pa_cons (pe_g cN hr (by decide) (pa_cons (pv 0) (pa_cons pe_int pa_nil))) pa_nil)) (blkOk_by (own := [("_law_k", 4)]) (N := ["_law_state", "_law_some", "_law_way", "_law_at", "_law_k"]) (sc := defScope lBent) (by decide +kernel))
          (fun _ _ _ _ _ => pg_name (i := 4) nd rfl (Or.inl rfl)) (fun _ _ _ _ _ => pts_nil) (fun _ _ _ _ _ => pe_g cN hr (by decide) (pa_cons (pv 0) (pa_cons pe_int pa_nil)))) pa_nil)))) pss_nil)
      (pss_one (ps_ret (pe_ix ix_list (pe_lst (pa_cons (pe_op op_repT (pe_tup (pa_cons pe_int pa_nil)) pe_int) (pa_cons (pe_op op_repT (pe_tup (pa_cons pe_int pa_nil)) pe_int) (pa_cons (pe_tup pa_nil) (pa_cons (pe_tup (pa_cons pe_int (pa_cons pe_int (pa_cons pe_int (pa_cons pe_int pa_nil))))) (pa_cons (pe_tup (pa_cons pe_int pa_nil)) pa_nil))))))
        (pe_g cN hr (by decide) (pa_cons (pv 0) (pa_cons pe_int pa_nil))) (fun _ _ => rfl)))))))), ?_⟩
    obtain ⟨left0, at0, e1, e2⟩ := id st
    refine ⟨_, rfl, q, c, ns, 6, rfl, by decide, by decide, st, fun way H1 w0 w1 st1 kp1 => ?_⟩
    have hT1 : SqT K H1 a (L.map V.int) := sqT_dk e1 kp1 hT
    obtain ⟨left1, at1, u1, u2⟩ := id st1
    have hl2 : (0 : Int) < (((L.map V.int).length : Nat) : Int) + 1 ∧ (((L.map V.int).length : Nat) : Int) + 1 < 1073741824 := by
      rw [List.length_map]
      omega
    refine ⟨_, rfl, _, rfl, a, _, rfl, .inr hT1, _, _, rfl, rfl, q, c, ns, _, rfl, hl2.1, hl2.2, st1, fun at_ H2 a0 a1 st2 kp2 => ⟨_, _, rfl, ?_⟩⟩
    have hT2 : SqT K H2 a (L.map V.int) := sqT_dk u1 kp2 hT1
    have kq : Kp1 q H H2 := kp1.trans kp2
    obtain ⟨left2, at2, v1, v2⟩ := id st2
    -- what a branch hands back
    have fin : ∀ (p : Addr) (H3 : Hp) (M : List Int), StOk H3 q c ns → Kp1 q H2 H3 → SqT K H3 p (M.map V.int) → Good M → M.length ≤ 5000 → Q (.ref p) H3 := fun p H3 M s3 k3 t3 g3 l3 => k p H3 M s3 (kq.trans k3) t3 g3 l3
    refine ⟨fun σ H' => H' = H2 ∧ σ = [some (.ref q), some (.ref a), some (.int way), some (.int at_), none], ?_, ?_⟩
    · refine ⟨_, rfl, rfl, _, rfl, ite2 (fun _ => ?_) (fun _ => ⟨rfl, rfl⟩)⟩
      refine ⟨_, rfl, _, rfl, _, rfl, slice_by hT2 gL fun p H3 M s3 t3 g3 l3 => fin p H3 M (st2.same s3) (kp1_same s3) t3 g3 (by omega)⟩
    rintro σ H' ⟨rfl, rfl⟩
    refine ⟨fun σ H3 => H3 = H' ∧ σ = [some (.ref q), some (.ref a), some (.int way), some (.int at_), none], ?_, ?_⟩
    · refine ⟨_, rfl, rfl, _, rfl, ite2 (fun _ => ?_) (fun _ => iteF ⟨rfl, rfl⟩)⟩
      refine ⟨_, rfl, _, rfl, a, _, rfl, .inr hT2, _, _, rfl, rfl, _, rfl, ite2 (fun _ => ?_) (fun _ => ⟨rfl, rfl⟩)⟩
      refine ⟨_, rfl, _, rfl, _, rfl, slice_by hT2 gL fun p3 H3 M3 s3 t3 g3 l3 => ?_⟩
      refine ⟨_, rfl, q, c, ns, 256, rfl, by decide, by decide, st2.same s3, fun r H4 r0 r1 st4 kp4 => ⟨by show 1 ≤ sizeLine; decide, fun p5 hp5 => ?_⟩⟩
      have t4 : SqT K H4 p3 (M3.map V.int) := sqT_dk (s3 _ _ v1) kp4 t3
      have s5 := same_new (o := .tup [V.int r]) hp5
      refine cat_by (M := [r]) (same_tup s5 t4) (.inl (.inl upd_same)) g3 (good_one r0 r1) (by show M3.length + 1 ≤ 10000; omega) fun p6 H6 M6 s6 t6 g6 l6 => ?_
      have k26 : Kp1 q H' H6 := (kp1_same s3).trans (kp4.trans (kp1_same (s5.trans s6)))
      have l6 : M6.length ≤ M3.length + 1 := l6
      have st6 := (st4.same s5).same s6
      refine ⟨_, rfl, _, rfl, _, _, rfl, rfl, _, rfl, nopart (slice_by (sqT_dk v1 k26 hT2) gL fun p7 H7 M7 s7 t7 g7 l7 => ?_)⟩
      refine cat_by (same_tup s7 t6) t7 g6 g7 (by omega) fun p8 H8 M8 s8 t8 g8 l8 => ?_
      exact fin p8 H8 M8 ((st6.same s7).same s8) (k26.trans (kp1_same (s7.trans s8))) t8 g8 (by omega)
    rintro σ H3 ⟨rfl, rfl⟩
    refine ⟨fun σ H4 => H4 = H3 ∧ σ = [some (.ref q), some (.ref a), some (.int way), some (.int at_), none], ?_, ?_⟩
    · refine ⟨_, rfl, rfl, _, rfl, ite2 (fun _ => ?_) (fun _ => ⟨rfl, rfl⟩)⟩
      refine ⟨_, rfl, _, rfl, _, rfl, slice_by hT2 gL fun p3 H4 M3 s3 t3 g3 l3 => ?_⟩
      refine ⟨_, rfl, q, c, ns, 256, rfl, by decide, by decide, st2.same s3, fun r H5 r0 r1 st4 kp4 => ⟨by show 1 ≤ sizeLine; decide, fun p5 hp5 => ?_⟩⟩
      have t4 : SqT K H5 p3 (M3.map V.int) := sqT_dk (s3 _ _ v1) kp4 t3
      have s5 := same_new (o := .tup [V.int r]) hp5
      refine cat_by (M := [r]) (same_tup s5 t4) (.inl (.inl upd_same)) g3 (good_one r0 r1) (by show M3.length + 1 ≤ 10000; omega) fun p6 H6 M6 s6 t6 g6 l6 => ?_
      have k26 : Kp1 q H3 H6 := (kp1_same s3).trans (kp4.trans (kp1_same (s5.trans s6)))
      have l6 : M6.length ≤ M3.length + 1 := l6
      have st6 := (st4.same s5).same s6
      refine ⟨_, rfl, _, rfl, _, rfl, nopart (slice_by (sqT_dk v1 k26 hT2) gL fun p7 H7 M7 s7 t7 g7 l7 => ?_)⟩
      refine cat_by (same_tup s7 t6) t7 g6 g7 (by omega) fun p8 H8 M8 s8 t8 g8 l8 => ?_
      exact fin p8 H8 M8 ((st6.same s7).same s8) (k26.trans (kp1_same (s7.trans s8))) t8 g8 (by omega)
    rintro σ H4 ⟨rfl, rfl⟩
    refine ⟨fun σ H5 => H5 = H4 ∧ σ = [some (.ref q), some (.ref a), some (.int way), some (.int at_), none], ?_, ?_⟩
    · refine ⟨_, rfl, rfl, _, rfl, ite2 (fun _ => ?_) (fun _ => ⟨rfl, rfl⟩)⟩
      refine ⟨_, rfl, q, c, ns, 30, rfl, by decide, by decide, st2, fun r H5 r0 r1 st5 kp5 => ⟨r, rfl, by omega, by omega, fun D hD => ?_⟩⟩
      obtain ⟨left5, at5, y1, y2⟩ := id st5
      have nqD : q ≠ D := ne_of_none y1 hD
      have ncD : c ≠ D := ne_of_none y2 hD
      refine lc_range (lo := 0) (n := r.toNat) (fun i H6 => ∃ M : List Int, H6 D = some (.lst (M.map V.int)) ∧ M.length = i ∧ Good M ∧ StOk H6 q c ns ∧ Kp1 q H5 H6) ⟨[], upd_same, rfl, good_nil, st5.same (same_new hD), kp1_same (same_new hD)⟩ ?_ ?_
      · rintro i H6 hi ⟨M, hM, hMl, gM, st6, kp6⟩
        refine ⟨rfl, _, rfl, q, c, ns, 256, rfl, by decide, by decide, st6, fun z H7 z0 z1 st7 kp7 => ?_⟩
        have hM7 : H7 D = some (.lst (M.map V.int)) := kp7 _ _ hM nqD.symm
        obtain ⟨left7, at7, x1, x2⟩ := id st7
        refine ⟨_, hM7, by rw [List.length_map]; exact small1000 (by omega), M ++ [z], by rw [upd_same, List.map_append]; rfl, by rw [List.length_append, hMl]; rfl, good_append gM (good_one z0 z1), ⟨left7, at7, by rw [upd_ne nqD]; exact x1, by rw [upd_ne ncD]; exact x2⟩, fun b o e hb => ?_⟩
        rw [upd_ne (ne_of_none e hD)]
        exact kp7 b o (kp6 b o e hb) hb
      · rintro H6 ⟨M, hM, hMl, gM, st6, kp6⟩
        refine ⟨D, _, rfl, .inl ⟨SqL.of hM, fun p hp => ?_⟩⟩
        have sp := same_new (o := .tup (M.map V.int)) hp
        exact fin p _ M (st6.same sp) (kp5.trans (kp6.trans (kp1_same sp))) (.inl (.inl upd_same)) gM (by omega)
    rintro σ H5 ⟨rfl, rfl⟩
    refine ⟨by show 1 ≤ sizeLine; decide, fun p1 hp1 => ⟨p1, 20, _, rfl, rfl, .inl (.inl upd_same), by simp, by decide, by decide, by show 1 ≤ 1000; decide, fun p2 hp2 => ?_⟩⟩
    refine ⟨by show 1 ≤ sizeLine; decide, fun p3 hp3 => ⟨p3, 3, _, rfl, rfl, .inl (.inl upd_same), by simp, by decide, by decide, by show 1 ≤ 1000; decide, fun p4 hp4 => ?_⟩⟩
    refine ⟨Nat.zero_le _, fun p5 hp5 => ⟨by show 4 ≤ sizeLine; decide, fun p6 hp6 => ⟨by show 1 ≤ sizeLine; decide, fun p7 hp7 => ⟨by show 5 ≤ sizeLine; decide, fun p8 hp8 => ?_⟩⟩⟩⟩
    have z1 := same_new (o := .tup [V.int 255]) hp1
    have z2 := same_new (o := .tup (List.replicate (20 : Int).toNat [V.int 255]).flatten) hp2
    have z3 := same_new (o := .tup [V.int 0]) hp3
    have z4 := same_new (o := .tup (List.replicate (3 : Int).toNat [V.int 0]).flatten) hp4
    have z5 := same_new (o := .tup []) hp5
    have z6 := same_new (o := .tup [V.int 255, V.int 255, V.int 255, V.int 255]) hp6
    have z7 := same_new (o := .tup [V.int 128]) hp7
    have z8 := same_new (o := .lst [V.ref p2, V.ref p4, V.ref p5, V.ref p6, V.ref p7]) hp8
    have zz := ((((((z1.trans z2).trans z3).trans z4).trans z5).trans z6).trans z7).trans z8
    refine ⟨_, rfl, q, c, ns, 5, rfl, by decide, by decide, st2.same zz, fun r H6 r0 r1 st6 kp6 => ?_⟩
    obtain ⟨j, rfl⟩ : ∃ j : Nat, r = (j : Int) := ⟨r.toNat, by omega⟩
    have y1 := zz _ _ v1
    have kall : Kp1 q H5 H6 := (kp1_same zz).trans kp6
    have back : ∀ (p : Addr) (M : List Int), SqT K (upd (upd (upd (upd (upd (upd (upd (upd H5 p1 (.tup [V.int 255])) p2 (.tup (List.replicate (20 : Int).toNat [V.int 255]).flatten)) p3 (.tup [V.int 0])) p4 (.tup (List.replicate (3 : Int).toNat [V.int 0]).flatten)) p5 (.tup [])) p6 (.tup [V.int 255, V.int 255, V.int 255, V.int 255])) p7 (.tup [V.int 128])) p8 (.lst [V.ref p2, V.ref p4, V.ref p5, V.ref p6, V.ref p7])) p (M.map V.int) → Good M → M.length ≤ 5000 → Q (.ref p) H6 :=
      fun p M t g l => fin p H6 M st6 kall (sqT_dk y1 kp6 t) g l
    have l8 := sqL_dk (K := K) y1 kp6 (SqL.of upd_same)
    have gd : ∀ {M : List Int}, (M.all fun x => decide (0 ≤ x ∧ x ≤ 255)) = true → Good M := fun h x hx => of_decide_eq_true (List.all_eq_true.mp h x hx)
    match j, r1 with
    | 0, _ => exact ⟨p8, _, _, _, rfl, rfl, l8, atI_nat (j := 0) rfl, back p2 (List.replicate 20 255) (same_tup ((((((z3.trans z4).trans z5).trans z6).trans z7).trans z8)) (.inl (.inl upd_same))) (gd (by decide)) (by decide)⟩
    | 1, _ => exact ⟨p8, _, _, _, rfl, rfl, l8, atI_nat (j := 1) rfl, back p4 (List.replicate 3 0) (same_tup ((((z5.trans z6).trans z7).trans z8)) (.inl (.inl upd_same))) (gd (by decide)) (by decide)⟩
    | 2, _ => exact ⟨p8, _, _, _, rfl, rfl, l8, atI_nat (j := 2) rfl, back p5 [] (same_tup (((z6.trans z7).trans z8)) (.inl (.inl upd_same))) good_nil (by decide)⟩
    | 3, _ => exact ⟨p8, _, _, _, rfl, rfl, l8, atI_nat (j := 3) rfl, back p6 [255, 255, 255, 255] (same_tup ((z7.trans z8)) (.inl (.inl upd_same))) (gd (by decide)) (by decide)⟩
    | 4, _ => exact ⟨p8, _, _, _, rfl, rfl, l8, atI_nat (j := 4) rfl, back p7 [128] (same_tup z8 (.inl (.inl upd_same))) (gd (by decide)) (by decide)⟩
    | k + 5, h => omega
end
end K11
namespace K11
open PySem L2 PySem.Spec PyProof.Rows
/-! ### a tuple, so many times over: none, one, more -/
theorem tmul1 (l : Addr) (its : Array Value) (n : Nat) (dd : Option Addr) (sl : Array (Option Value)) (u : Tok) (hi : its.isEmpty = false) :
    Meets (Builtin.«tuple.__mul__» ⟨[.ref l, .int 1 u], []⟩) (fun _ R s => s.heap.get? l = some { cls := .type "tuple", dict := dd, data := .seq its n, slots := sl } ∧ R (.ok (.ret (Value.ref l))) s) :=
  .of_wp fun prog w A R s h => by
    obtain ⟨hp, g, d, tk, os⟩ := s
    have hl := h.1
    have h := h.2
    have f1 := AutoSeq1.idx_int
    wp_walk using wpAny_loadPart' hl
    repeat (first
      | (refine wpAny_ite_false (decide_eq_false (by decide)) ?_; wp_walk using wpAny_loadPart' hl)
      | (refine wpAny_ite_true (decide_eq_true (by rw [hi]; rfl)) ?_; wp_walk using wpAny_loadPart' hl)
      | (refine wpAny_ite_true (decide_eq_true rfl) ?_; wp_walk using wpAny_loadPart' hl))
    exact ⟨_, rfl, h⟩
theorem tmul0 (l : Addr) (its : Array Value) (n : Nat) (dd : Option Addr) (sl : Array (Option Value)) (u : Tok) (hi : its.isEmpty = false) :
    Meets (Builtin.«tuple.__mul__» ⟨[.ref l, .int 0 u], []⟩) (fun _ R s => s.heap.get? l = some { cls := .type "tuple", dict := dd, data := .seq its n, slots := sl } ∧
      R (.ok (.ret (Value.ref s.heap.objs.size))) { s with heap := s.heap.push { cls := Value.type "tuple", data := Data.seq #[] }, toks := s.toks }) :=
  .of_wp fun prog w A R s h => by
    obtain ⟨hp, g, d, tk, os⟩ := s
    have hl := h.1
    have h := h.2
    have f1 := AutoSeq1.idx_int
    wp_walk using wpAny_loadPart' hl
    repeat (first
      | (refine wpAny_ite_false (decide_eq_false (by decide)) ?_; wp_walk using wpAny_loadPart' hl)
      | (refine wpAny_ite_false (decide_eq_false (by rw [hi]; decide)) ?_; wp_walk using wpAny_loadPart' hl)
      | (refine wpAny_ite_true (decide_eq_true (by rw [hi]; rfl)) ?_; wp_walk using wpAny_loadPart' hl)
      | (refine wpAny_ite_true (decide_eq_true rfl) ?_; wp_walk using wpAny_loadPart' hl))
    exact ⟨_, rfl, h⟩
def rRepA (K : PySem.W.Frag) : R2 := fun x y H Q => ∃ l k xs, x = .ref l ∧ y = .int k ∧ SqT K H l xs ∧ xs ≠ [] ∧ 0 ≤ k ∧ k ≤ 1000 ∧ xs.length ≤ 1000 ∧ (k = 1 → Q (.ref l) H) ∧ (k ≠ 1 → ∀ p, H p = none → Q (.ref p) (upd H p (.tup (List.replicate k.toNat xs).flatten)))
section
variable {X : Cx}
theorem op_repA : OpR X (binaryOp .Mult) (rRepA X.K) := by
  intro pins s σ H x y v u Q I rx ry h
  obtain ⟨l, k, xs, rfl, rfl, hT, hne, h1, h2, hz, q1, q2⟩ := h
  by_cases hk : 2 ≤ k
  · exact op_repT _ _ _ _ _ _ _ _ _ I rx ry ⟨l, k, xs, rfl, rfl, hT, hne, hk, h2, hz, q2 (by omega)⟩
  cases rx
  obtain ⟨t, rfl⟩ := ry
  obtain ⟨its, r, ⟨⟨cls, dd, data, sl⟩, ho, hc, n, hd⟩, hs⟩ := I.tuple hT
  simp only at hc hd
  subst hc hd
  have hi : its.toArray.isEmpty = false := by
    cases r with
    | nil => exact absurd rfl hne
    | cons a b => rfl
  rcases (show k = 0 ∨ k = 1 by omega) with rfl | rfl
  · refine wpAny_binaryOp_repeat_ref (T := "tuple") (U := "int") (by decide) ⟨_, ho, rfl⟩ (fun s' => typeIs_int s' 0 t) noFill_tuple_mul F.fills_int_mul F.slot_int_rmul repeat_tuple F.slot_int_index.lookup
      (call_meets F.slot_int_rmul (typeIs_int s 0 t) F.entry_int_rmul (F.args_int_rmul_2 _ _) (int_rmul_tuple 0 t l its.toArray n dd sl)
        ⟨ho, rfl, ⟨_, ho, rfl⟩, call_meets F.slot_tuple_mul ⟨_, ho, rfl⟩ F.entry_tuple_mul (F.args_tuple_mul_2 _ _) (tmul0 l its.toArray n dd sl t hi) ⟨ho, ?_⟩⟩)
    refine ⟨.ref s.heap.objs.size, _, I.laid (t' := s.toks) (o := .tup []) (fun b ob q => Heap.get?_push_of_some _ q) (Nat.le_refl _) ?_, rfl, q2 (by decide) _ (I.hok.fresh (Nat.le_refl _))⟩
    exact ⟨Nat.zero_le _, [], .nil, IsTup.new _ _⟩
  · refine wpAny_binaryOp_repeat_ref (T := "tuple") (U := "int") (by decide) ⟨_, ho, rfl⟩ (fun s' => typeIs_int s' 1 t) noFill_tuple_mul F.fills_int_mul F.slot_int_rmul repeat_tuple F.slot_int_index.lookup
      (call_meets F.slot_int_rmul (typeIs_int s 1 t) F.entry_int_rmul (F.args_int_rmul_2 _ _) (int_rmul_tuple 1 t l its.toArray n dd sl)
        ⟨ho, rfl, ⟨_, ho, rfl⟩, call_meets F.slot_tuple_mul ⟨_, ho, rfl⟩ F.entry_tuple_mul (F.args_tuple_mul_2 _ _) (tmul1 l its.toArray n dd sl t hi) ⟨ho, ?_⟩⟩)
    exact ⟨.ref l, _, I, rfl, q1 rfl⟩
end
end K11
namespace K11
open PySem L2
section
variable {P : Program} {w : World} {K : PySem.W.Frag} {mg : Str → Option Value} {base : Heap}
/-! ### _law_read -/
def spRead (K : PySem.W.Frag) (C : Addr) : Sp := fun vs H Q _ => ∃ (p d : Addr) (L : List Int) (s : St0) (a : Ask Str), vs = [.ref p, nmV a, moV a] ∧ Known a ∧ CAt C (FamR K L) H p d s ∧ Ok s ∧ s.lrn.length ≤ 900 ∧
  ∀ H', CAt C (FamR K L) H' p d (rd nk L s a).2 → Kp p d H H' → Q (.int (rd nk L s a).1) H'
theorem scRead : FnScope ["_law_reader", "_law_name", "_law_most"] ["_law_reader", "_law_name", "_law_most"] (defScope lRead) := ⟨rfl, rfl, rfl, by decide +kernel, rfl, by decide +kernel, by decide +kernel⟩
theorem ok_read {C f : Addr} {fd : FuncData} (g : GDef K mg "_law_read" lRead ["_law_reader", "_law_name", "_law_most"] f fd) (mN : Met P w K mg base 6 C "number" (spRNum K C)) (mE : Met P w K mg base 5 C "even" (spREven K C))
    (mB : Met P w K mg base 5 C "bit" (spRBit K C)) : FnOk P w K mg base CX0 7 f fd ["_law_reader", "_law_name", "_law_most"] (spRead K C) := by
  refine g.F.ok scRead (fun vs H Q E h => ?_) (fun cdv A outer s H vs Q E hr h => ?_)
  · obtain ⟨p, d, L, s, a, rfl, _⟩ := h
    rfl
  · obtain ⟨p, d, L, s, a, rfl, kn, c0, o, hl, k⟩ := h
    obtain ⟨dz, fs, g1, g2, gn⟩ := c0.ob famR_ok
    refine ⟨_, pss_cons (ps_if (pt_cmpR op_notN (pv 2) pe_non (nomark _)) (pss_one (ps_ret (pe_m mN hr (by decide) (pv 0) (pa_cons (pv 1) (pa_cons (pv 2) pa_nil))))) pss_nil)
      (pss_one (ps_ret (pe_ifExp (pt_cmpR op_isN (pv 1) pe_non (nomark _)) (pe_m0 mE hr (by decide) (pv 0)) (pe_m mB hr (by decide) (pv 0) (pa_cons (pv 1) pa_nil))))), ?_⟩
    cases a with
    | ev => exact ⟨_, rfl, rfl, _, rfl, iteF ⟨_, rfl, rfl, _, rfl, iteT ⟨_, rfl, p, dz, fs, rfl, g1, gn _ (by decide +kernel), p, d, L, s, rfl, c0, o, k⟩⟩⟩
    | bit z => exact ⟨_, rfl, rfl, _, rfl, iteF ⟨_, rfl, rfl, _, rfl, iteF ⟨_, rfl, p, dz, fs, rfl, g1, gn _ (by decide +kernel), _, rfl, p, d, L, s, z, rfl, c0, o, by omega, k⟩⟩⟩
    | num z m => exact ⟨_, rfl, rfl, _, rfl, iteT ⟨_, rfl, p, dz, fs, rfl, g1, gn _ (by decide +kernel), _, rfl, _, rfl, p, d, L, s, z, m, rfl, kn.2, bases_len _ kn.1, c0, o, hl, k⟩⟩
end
end K11
namespace K11
open PySem L2
/-- all asks read, whatever they tell -/
def rds (L : List Int) : List (Ask Str) → St0 → St0
  | [], s => s
  | a :: r, s => rds L r (rd nk L s a).2
theorem rds_snoc (L : List Int) (a : Ask Str) : ∀ (l : List (Ask Str)) (s : St0), rds L (l ++ [a]) s = (rd nk L (rds L l s) a).2
  | [], _ => rfl
  | b :: r, s => rds_snoc L a r (rd nk L s b).2
theorem rds_take {L : List Int} {as : List (Ask Str)} {i : Nat} {a : Ask Str} (h : as[i]? = some a) (s : St0) : rds L (as.take (i + 1)) s = (rd nk L (rds L (as.take i) s) a).2 := by
  rw [List.take_add_one, h]
  exact rds_snoc L a _ s
theorem rds_ok {L : List Int} : ∀ (l : List (Ask Str)) {s : St0}, Ok s → Ok (rds L l s)
  | [], _, o => o
  | a :: r, _, o => rds_ok r (rd_ok o a)
theorem rds_kn {L : List Int} : ∀ (l : List (Ask Str)) {s : St0}, Kn NL s.lrn → (∀ a ∈ l, Known a) → Kn NL (rds L l s).lrn
  | [], _, h, _ => h
  | a :: r, _, h, k => rds_kn r (kn_rd h (known_of (k a (List.mem_cons_self ..)))) fun b hb => k b (List.mem_cons_of_mem _ hb)
theorem CAt.kpD {C : Addr} {F : Fam} (fo : FamOk F) {H H' : Hp} {p d q dn : Addr} {s : St0} {ks js : List (Key × V)} (c : CAt C F H p d s) (hq : H q = some (.dK ks)) (hn : H dn = some (.dK js)) (k : Kp q dn H H') (h1 : d ≠ q) (h2 : d ≠ dn) : CAt C F H' p d s := by
  obtain ⟨Tn, f, ⟨⟨dx, e1⟩, e2⟩⟩ := c
  refine ⟨Tn, fo.keep f fun a ys r => ?_, ⟨dx, k _ _ e1 (ne_of e1 hq (by intro z; cases z)) (ne_of e1 hn (by intro z; cases z))⟩, k _ _ e2 h1 h2⟩
  rcases r with r | ⟨o, r⟩
  · exact .inl (k _ _ r (ne_of r hq (by intro z; cases z)) (ne_of r hn (by intro z; cases z)))
  · exact .inr ⟨o, k _ _ r (ne_of r hq (by intro z; cases z)) (ne_of r hn (by intro z; cases z))⟩
theorem pairs_of {H : Hp} : ∀ {ts : List Addr} {l : List (Str × Int)}, Paired (fun (t : Addr) (q : Key × V) => H t = some (.tup [kV q.1, q.2])) ts (kvs l) → Paired (PairAt H) ts l
  | _, [], .nil => .nil
  | _, p :: r, .cons h t => .cons h (pairs_of (l := r) t)
section
variable {P : Program} {w : World} {K : PySem.W.Frag} {mg : Str → Option Value} {base : Heap}
/-! ### _law_as_kept -/
def spKept (K : PySem.W.Frag) : Sp := fun vs H Q _ => ∃ (a b : Addr) (ts : List Addr) (as : List (Ask Str)) (L : List Int), vs = [.ref a, .ref b] ∧ H a = some (.lst (ts.map V.ref)) ∧ Paired (AskAt H) ts as ∧ (∀ x ∈ as, Known x) ∧ SqT K H b (L.map V.int) ∧ L.length ≤ 5000 ∧ ∀ H', Same H H' → Q (.bl true) H'
theorem scKept : FnScope ["_law_asks_here", "_law_some", "_law_reader", "_law_coder_here", "_law_name", "_law_most", "_law_due"] ["_law_asks_here", "_law_some"] (defScope lKept) := ⟨rfl, rfl, rfl, by decide +kernel, rfl, by decide +kernel, by decide +kernel⟩
theorem ok_kept {cR f fi : Addr} {fd fdi : FuncData} (g : GDef K mg "_law_as_kept" lKept ["_law_asks_here", "_law_some"] f fd) (T : Txt K mg) (M : Mk K cR fi) (hR : mg "Reader" = some (.ref cR)) (gi : MDef K "__init__" "Reader.__init__" sRInit ["self", "letters"] fi fdi)
    (FI : FnOk P w K mg base CX0 2 fi fdi ["self", "letters"] (spRInit K cR)) (cC : Cal P w K mg base 1 "_law_coder" (spCoder K)) (cS : Cal P w K mg base 1 "_law_sign" (spSign K)) (cN : Cal P w K mg base 2 "_law_number" (spNumK K)) (cR' : Cal P w K mg base 7 "_law_read" (spRead K cR))
    (mC : Met P w K mg base 1 cR "chances" (spChances cR)) : FnOk P w K mg base CX0 8 f fd ["_law_asks_here", "_law_some"] (spKept K) := by
  refine g.F.ok scKept (fun vs H Q E h => ?_) (fun cdv A outer s H vs Q E hr h => ?_)
  · obtain ⟨a, b, ts, as, L, rfl, _⟩ := h
    rfl
  · obtain ⟨a, b, ts, as, L, rfl, hA, pA, kn, hT, hlen, k⟩ := h
    have nd := scKept.nd
    have hu := hu_of hr
    refine ⟨_, pss_cons (ps_par (i := 2) (j := 3) (by rfl) nd rfl rfl (by decide) rfl rfl (pa_cons (pe_make M FI (hr.mono (by decide)) rfl hR gi.b .nil pass0 (pa_cons (pe_callTy call_list_of (by rfl) T.zList (by decide +kernel) (pa_cons (pv 1) pa_nil)) pa_nil))
        (pa_cons (pe_g cC hr (by decide) (pa_cons (pe_callTy call_tuple_of (by rfl) T.zTuple (by decide +kernel) (pa_cons (pv 1) pa_nil)) pa_nil)) pa_nil)) (by rfl))
      (pss_cons (ps_for PassesOwn.never rfl (pi_list (pv 0)) (pg_tup rfl (pgs_cons (pg_name (i := 4) nd rfl (Or.inl rfl)) (pgs_cons (pg_name (i := 5) nd rfl (Or.inl rfl)) pgs_nil)))
        (Evl.pss_cut (ps_set (i := 6) nd rfl (Or.inl rfl) (pe_ifExp (pt_cmpR op_isN (pv 5) pe_non (nomark _)) (pe_g cS hr (by decide) (pa_cons (pv 3) (pa_cons (pv 4) (pa_cons pe_non pa_nil))))
            (pe_g cN hr (by decide) (pa_cons (pv 3) (pa_cons (pv 4) (pa_cons pe_non (pa_cons (pv 5) pa_nil)))))))
          (pss_one (ps_if (pt_cmpR op_ne (pe_g cR' hr (by decide) (pa_cons (pv 2) (pa_cons (pv 4) (pa_cons (pv 5) pa_nil)))) (pv 6) (nomark _)) (pss_one (ps_ret pe_bl)) pss_nil))))
      (pss_one (ps_ret (pe_cmpR (op_eqD hr.units) (LiI.pe_listItems rfl (pe_m0 mC hr (by decide) (pv 2)) rfl T.zList (by decide +kernel)) (pe_callB (cr_sortedSI hr.units) (by rfl) T.zSorted (by decide +kernel) (pa_cons (LiI.pe_listItems rfl (pe_dget hu (pv 3) pe_str (fun _ _ => rfl)) rfl T.zList (by decide +kernel)) pa_nil)) (nomark _))))), ?_⟩
    refine ⟨_, rfl, b, _, rfl, .inr hT, fun l hl => ?_⟩
    have sl := same_new (o := .lst (L.map V.int)) hl
    intro x dx nx ndx nex
    have nxl : x ≠ l := fun e => by rw [e, upd_same] at nx; cases nx
    have ndl : dx ≠ l := fun e => by rw [e, upd_same] at ndx; cases ndx
    refine ⟨x, dx, l, L, rfl, upd_same, .inl (SqL.of (by rw [upd_ne nxl.symm, upd_ne ndl.symm, upd_same])), fun d H1 hd c1 k1 => ⟨rfl, ?_⟩⟩
    have sH : Same H H1 := fun u o e => by
      have e1 := sl u o e
      exact k1 u o (by rw [upd_ne (ne_of_none e1 nx), upd_ne (ne_of_none e1 ndx)]; exact e1) (ne_of_none e1 nx)
    have hd0 : H d = none := by
      cases e : H d with
      | none => rfl
      | some o =>
        have e1 := sl d o e
        rw [upd_ne (ne_of_none e1 nx), upd_ne (ne_of_none e1 ndx), e1] at hd
        cases hd
    have nx0 : H x = none := sl.free nx
    refine ⟨_, rfl, b, _, rfl, .inr ⟨same_tup sH hT, ?_⟩⟩
    refine ⟨b, L, rfl, same_tup sH hT, fun q dn H2 s12 hq hdn kc => ?_⟩
    obtain ⟨dy, fs0, r1, r2, rn0⟩ := c1.ob famR_ok
    have nxq : x ≠ q := ne_of_none r1 hq
    have nxn : x ≠ dn := ne_of_none r1 hdn
    have ndq : d ≠ q := ne_of_none r2 hq
    have ndn : d ≠ dn := ne_of_none r2 hdn
    have hq0 : H q = none := sH.free hq
    have hn0 : H dn = none := sH.free hdn
    have sH2 := sH.trans s12
    refine ⟨_, _, rfl, _, rfl, a, rfl, ⟨_, SqL.of (sH2 _ _ hA)⟩, for_list (K := K) (a := a) (xs := ts.map V.ref) (fun i σ H' => ∃ (v4 v5 v6 : Option V), σ = [some (.ref a), some (.ref b), some (.ref x), some (.ref q), v4, v5, v6] ∧ Same H H' ∧
      CAt cR (FamR K L) H' x d (rds L (as.take i) cs0) ∧ KcAt K H' q dn b L (rds L (as.take i) cs0)) ⟨none, none, none, rfl, sH2, c1.same famR_ok s12, kc⟩ (fun i σ H' _ ⟨_, _, _, _, s', _⟩ => SqL.of (s' _ _ hA)) ?_ ?_⟩
    · rintro i y σ H' hy ⟨v4, v5, v6, rfl, s', cr, ck⟩
      obtain ⟨t, ht, rfl⟩ : ∃ t, ts[i]? = some t ∧ y = V.ref t := by
        rw [List.getElem?_map] at hy
        cases hz : ts[i]? with
        | none => rw [hz] at hy; cases hy
        | some t => rw [hz] at hy; exact ⟨t, rfl, (Option.some.inj hy).symm⟩
      obtain ⟨ak, hak, tA⟩ := LiI.paired_get pA ht
      have kak := kn ak (List.mem_of_getElem? hak)
      have hst := rds_take (L := L) hak cs0
      have ok : Ok (rds L (as.take i) cs0) := rds_ok _ ok0
      have kl : Kn NL (rds L (as.take i) cs0).lrn := rds_kn _ kn0 fun z hz => kn z (List.mem_of_mem_take hz)
      have hlen' := kn52 kl
      generalize rds L (as.take i) cs0 = S at *
      refine ⟨t, _, rfl, .inl (.inl (s' _ _ tA)), rfl, _, _, rfl, _, _, rfl, rfl, ?_⟩
      refine ⟨fun σ H3 => σ = [some (.ref a), some (.ref b), some (.ref x), some (.ref q), some (nmV ak), some (moV ak), some (.int (rd nk L S ak).1)] ∧ KcAt K H3 q dn b L (rd nk L S ak).2 ∧ Kp q dn H' H3, ?_, ?_⟩
      · cases ak with
        | ev =>
          refine ⟨_, rfl, rfl, _, rfl, iteT ⟨_, rfl, _, rfl, q, dn, b, L, S, none, rfl, ck, ok, by omega, fun H3 c3 k3 => ⟨rfl, ?_, k3⟩⟩⟩
          rw [sgS_none] at c3
          exact c3
        | bit z =>
          refine ⟨_, rfl, rfl, _, rfl, iteT ⟨_, rfl, _, rfl, q, dn, b, L, S, some z, rfl, ck, ok, by omega, fun H3 c3 k3 => ⟨rfl, ?_, k3⟩⟩⟩
          rw [sgS_some] at c3
          exact c3
        | num z m => exact ⟨_, rfl, rfl, _, rfl, iteF ⟨_, rfl, _, rfl, _, rfl, q, dn, b, L, S, z, m, rfl, kak.2, bases_len _ kak.1, ck, ok, by omega, fun H3 c3 k3 => ⟨rfl, c3, k3⟩⟩⟩
      rintro σ H3 ⟨rfl, ck3, k3⟩
      have s3 : Same H H3 := fun u o e => k3 u o (s' u o e) (ne_of_none e hq0) (ne_of_none e hn0)
      have cr3 : CAt cR (FamR K L) H3 x d S := cr.kpD famR_ok ck.ob ck.nm k3 ndq ndn
      refine ⟨_, rfl, _, rfl, _, rfl, x, d, L, S, ak, rfl, kak, cr3, ok, by omega, fun H4 c4 k4 => ?_⟩
      have s4 : Same H H4 := fun u o e => k4 u o (s3 u o e) (ne_of_none e nx0) (ne_of_none e hd0)
      refine ⟨_, rfl, rfl, _, rfl, ?_⟩
      rw [show (!decide (V.int (rd nk L S ak).1 = V.int (rd nk L S ak).1)) = false by rw [decide_eq_true rfl]; rfl]
      refine iteF ?_
      refine ⟨_, _, _, rfl, s4, by rw [hst]; exact c4, ?_⟩
      rw [hst]
      exact ⟨k4 _ _ ck3.ob nxq.symm ndq.symm, k4 _ _ ck3.nm nxn.symm ndn.symm, ck3.ne, same_tup s4 hT⟩
    · rintro σ H' ⟨v4, v5, v6, rfl, s', cr, ck⟩
      have hl2 : (ts.map V.ref).length = as.length := by rw [List.length_map, Paired.length pA]
      rw [hl2, List.take_of_length_le (Nat.le_refl _)] at cr ck
      have kl : Kn NL (rds L as cs0).lrn := rds_kn _ kn0 kn
      have hlen' := kn52 kl
      generalize rds L as cs0 = S at *
      obtain ⟨dz, fs, g1, g2, gn⟩ := cr.ob famR_ok
      obtain ⟨Tn, hF, ct⟩ := cr
      refine ⟨_, rfl, x, dz, fs, rfl, g1, gn _ (by decide +kernel), x, d, _, S, rfl, ct, kl.nd, by omega, fun cc H3 ys s3 hcc perm srtd h3 => ?_⟩
      refine ⟨cc, _, rfl, h3, fun H4 l1 ts1 s4 hl1 hts1 nl1 h4 p4 => ?_⟩
      have s4 : Same H3 H4 := s4
      have ck4 := (ck.same s3).same s4
      refine ⟨_, rfl, q, _, rfl, dk_get ck4.ob cdk_names, dn, _, rfl, ck4.nm, fun H5 l2 ts2 s5 hl2 hts2 nl2 h5 p5 => ?_⟩
      have s5 : Same H4 H5 := s5
      refine ⟨l2, ts2, S.lrn, rfl, SqL.of h5, pairs_of p5, fun l3 ts3 p6 hl3 => ?_⟩
      rw [pairs_sorted kl.nd perm srtd] at p6
      have p4' : Paired (PairAt H4) ts1 (srt ys S.lrn) := pairs_of p4
      have s6 := same_new (o := .lst (ts3.map V.ref)) hl3
      have s46 := s5.trans s6
      have hok : ∀ z ∈ srt ys S.lrn, PyData.strOk z.1 = true := fun z hz => by
        obtain ⟨y, hy, rfl⟩ := List.mem_map.mp hz
        exact nl_ok y (kl.sub y (perm.mem_iff.mp hy))
      refine ⟨_, _, .lst (SqL.of (s46 _ _ h4)) (dp_pairs (Paired.mapP p4' fun t z e => s46 _ _ e)), .lst (SqL.of upd_same) (dp_pairs (Paired.mapP p6 fun t z e => s6 _ _ e)), shaped_pairs hok, shaped_pairs hok, ?_⟩
      rw [eqv_pairs hok]
      exact k _ ((s'.trans s3).trans (s4.trans s46))
end
end K11
namespace K11
open PySem L2
theorem look_self {l : List (Str × Int)} (nd : (names l).Nodup) {p : Str × Int} (hp : p ∈ l) : look l p.1 = p.2 := by
  unfold look
  cases e : l.find? fun q => decide (q.1 = p.1) with
  | none => exact absurd (decide_eq_true rfl) (List.find?_eq_none.mp e p hp)
  | some q =>
    have hq := List.mem_of_find?_eq_some e
    have h1 : q.1 = p.1 := by
      have := List.find?_some e
      exact of_decide_eq_true this
    obtain ⟨i, hi⟩ := List.getElem?_of_mem hp
    obtain ⟨j, hj⟩ := List.getElem?_of_mem hq
    have n1 : (names l)[i]? = some p.1 := by unfold names; rw [List.getElem?_map, hi]; rfl
    have n2 : (names l)[j]? = some p.1 := by unfold names; rw [List.getElem?_map, hj, ← h1]; rfl
    have := nd_ix nd n1 n2
    subst this
    rw [hi] at hj
    cases hj
    rfl
theorem val_self {l : List (Str × Int)} (nd : (names l).Nodup) : ∀ p ∈ kvs l, valV (kvs l) p.1 = some p.2 ∧ flatB p.2 = true := by
  intro p hp
  obtain ⟨z, hz, rfl⟩ := List.mem_map.mp hp
  refine ⟨?_, rfl⟩
  show valV (kvs l) (Sum.inr z.1 : Key) = some (.int z.2)
  rw [look_get (List.mem_map.mpr ⟨z, hz, rfl⟩), look_self nd hz]
theorem CAt.kpO {C : Addr} {F : Fam} (fo : FamOk F) {H H' : Hp} {p d x dx y : Addr} {s : St0} {fs : List (Str × V)} {ks : List (Key × V)} (c : CAt C F H p d s) (h1 : H x = some (.ins C y fs)) (h2 : H dx = some (.dK ks)) (k : Kp x dx H H') (n1 : p ≠ x) (n2 : d ≠ dx) : CAt C F H' p d s := by
  obtain ⟨Tn, f, ⟨⟨z, e1⟩, e2⟩⟩ := c
  exact ⟨Tn, fo.keep f (kp_rd k h1 h2), ⟨z, k _ _ e1 n1 (ne_of e1 h2 (by intro z; cases z))⟩, k _ _ e2 (ne_of e2 h1 (by intro z; cases z)) n2⟩
theorem left_out : ¬ ("left" : Str) ∈ NL := by decide +kernel
theorem kvs_list (l : List (Str × Int)) : ((kvs l).map fun kv => kV kv.1) = (names l).map V.str := by
  unfold kvs names
  rw [List.map_map, List.map_map]
  rfl
theorem Kp1.free {q x : Addr} {H H' : Hp} {o : HO} (k : Kp1 q H H') (hq : H' q = some o) (h : H' x = none) : H x = none := by
  cases e : H x with
  | none => rfl
  | some u =>
    have := k x u e (ne_of_none hq h).symm
    rw [h] at this
    cases this
section
variable {P : Program} {w : World} {K : PySem.W.Frag} {mg : Str → Option Value} {base : Heap}
/-- some + (0,) * next(state, 9) -/
theorem zeros_arg {σ : L2.St} {H : Hp} {i j : Nat} {tl q c : Addr} {ns L : List Int} {Q : VK} (hi : σ[i]? = some (some (.ref tl))) (hj : σ[j]? = some (some (.ref q))) (hT : SqT K H tl (L.map V.int)) (hl : L.length ≤ 2000) (st : StOk H q c ns)
    (k : ∀ (p : Addr) (H' : Hp) (m : Nat), StOk H' q c ns → Kp1 q H H' → SqT K H' p ((L ++ List.replicate m 0).map V.int) → Q (.ref p) H') :
    tOp (rCatA K) (tVar i) (tOp (rRepA K) (tTup (tCons (tC (.int 0)) tNil)) (tCall spNext [] E0 (tCons (tVar j) (tCons (tC (.int 9)) tNil)))) σ H Q := by
  refine ⟨_, hi, by show 1 ≤ sizeLine; decide, fun p1 hp1 => ?_⟩
  have s1 := same_new (o := .tup [V.int 0]) hp1
  refine ⟨_, hj, q, c, ns, 9, rfl, by decide, by decide, st.same s1, fun r H2 r0 r1 st2 kp2 => ?_⟩
  obtain ⟨m, rfl⟩ : ∃ m : Nat, r = (m : Int) := ⟨r.toNat, by omega⟩
  obtain ⟨lf, af, e1, e2⟩ := id st
  have k2 : Kp1 q H H2 := (kp1_same s1).trans kp2
  have hT2 : SqT K H2 tl (L.map V.int) := sqT_dk e1 k2 hT
  have h0 : SqT K H2 p1 [V.int 0] := sqT_dk (s1 _ _ e1) kp2 (.inl (.inl upd_same))
  -- the sum, whichever tuple the noughts are
  have cat : ∀ (p : Addr) (H3 : Hp), Same H2 H3 → SqT K H3 p ((List.replicate m (0 : Int)).map V.int) → rCatA K (.ref tl) (.ref p) H3 Q := by
    intro p H3 s3 h3
    have st3 := st2.same s3
    have k3 := k2.trans (kp1_same s3)
    refine ⟨tl, p, _, _, rfl, rfl, same_tup s3 hT2, h3, ?_, fun e => ?_, fun _ e => ?_, fun _ _ p4 hp4 => ?_⟩
    · rw [List.length_map, List.length_map, List.length_replicate]
      exact Nat.le_trans (by omega : _ ≤ 10000) (by decide)
    · have eL : L = [] := List.map_eq_nil_iff.mp e
      refine k p H3 m st3 k3 ?_
      rw [eL, List.nil_append]
      exact h3
    · have eR : List.replicate m (0 : Int) = [] := List.map_eq_nil_iff.mp e
      refine k tl H3 m st3 k3 ?_
      rw [eR, List.append_nil]
      exact same_tup s3 hT2
    · have s4 := same_new (o := .tup (L.map V.int ++ (List.replicate m (0 : Int)).map V.int)) hp4
      refine k p4 _ m (st3.same s4) (k3.trans (kp1_same s4)) ?_
      rw [List.map_append]
      exact .inl (.inl upd_same)
  refine ⟨p1, (m : Int), _, rfl, rfl, h0, by simp, by omega, by omega, by show 1 ≤ 1000; decide, fun e => ?_, fun _ p2 hp2 => ?_⟩
  · have e : m = 1 := by omega
    subst e
    exact cat p1 H2 (Same.refl _) h0
  · refine cat p2 _ (same_new hp2) ?_
    have e : (List.replicate ((m : Int)).toNat [V.int 0]).flatten = (List.replicate m (0 : Int)).map V.int := by
      rw [Int.toNat_natCast, List.map_replicate]
      exact List.flatten_replicate_singleton
    rw [← e]
    exact .inl (.inl upd_same)
/-! ### law -/
def spLaw (K : PySem.W.Frag) : Sp := fun vs H Q _ => ∃ (a : Addr) (ns : List Int), vs = [.ref a] ∧ SqL K H a (ns.map V.int) ∧ ns.length ≤ 63 ∧ ∀ H', Q (.bl true) H'
theorem scLaw : FnScope ["_law_script", "_law_state", "_law_turn", "_law_asks_here", "_law_some", "_law_values", "_law_told", "_law_one", "_law_other", "_law_name", "_law_most", "_law_value", "_law_time"] ["_law_script"] (defScope lLaw) :=
  ⟨rfl, rfl, rfl, by decide +kernel, rfl, by decide +kernel, by decide +kernel⟩
theorem ok_law {cR f fi : Addr} {fd fdi : FuncData} (g : GDef K mg "law" lLaw ["_law_script"] f fd) (T : Txt K mg) (M : Mk K cR fi) (hR : mg "Reader" = some (.ref cR)) (gi : MDef K "__init__" "Reader.__init__" sRInit ["self", "letters"] fi fdi)
    (FI : FnOk P w K mg base CX0 2 fi fdi ["self", "letters"] (spRInit K cR)) (cB : Cal P w K mg base 1 "_law_begin" (spBegin K)) (cN : Cal P w K mg base 2 "_law_next" spNext) (cA : Cal P w K mg base 4 "_law_asks" spAsks) (cW : Cal P w K mg base 6 "_law_written" spWritten)
    (cE : Cal P w K mg base 7 "_law_read" (spRead K cR)) (mC : Met P w K mg base 1 cR "chances" (spChances cR)) (cK : Cal P w K mg base 8 "_law_as_kept" (spKept K)) (cT : Cal P w K mg base 3 "_law_bent" (spBent K)) : FnOk P w K mg base CX0 9 f fd ["_law_script"] (spLaw K) := by
  refine g.F.ok scLaw (fun vs H Q E h => ?_) (fun cdv A outer s H vs Q E hr h => ?_)
  · obtain ⟨a, ns, rfl, _⟩ := h
    rfl
  · obtain ⟨a, ns, rfl, hS, hlen, k⟩ := h
    have nd := scLaw.nd
    have hu := hu_of hr
    refine ⟨_, pss_cons (ps_set (i := 1) nd rfl (Or.inl rfl) (pe_g cB hr (by decide) (pa_cons (pv 0) pa_nil)))
      (pss_cons (ps_for PassesOwn.never rfl (pi_range1 rfl T.zRange (pa_cons (pe_callB (call_max2 rfl) (by rfl) T.zMax (by decide +kernel) (pa_cons pe_int (pa_cons (pe_callB (call_min2 rfl) (by rfl) T.zMin (by decide +kernel) (pa_cons (pe_callB call_len_seq (by rfl) T.zLen PySem.boot_len (pa_cons (pv 0) pa_nil)) (pa_cons pe_int pa_nil))) pa_nil))) pa_nil)) (pg_name (i := 2) nd rfl (Or.inl rfl))
        (pss_cons (ps_set (i := 3) nd rfl (Or.inl rfl) (pe_g cA hr (by decide) (pa_cons (pv 1) (pa_cons (pe_g cN hr (by decide) (pa_cons (pv 1) (pa_cons pe_int pa_nil))) pa_nil))))
        (pss_cons (ps_asg (pe_g cW hr (by decide) (pa_cons (pv 1) (pa_cons (pv 3) pa_nil))) (pg_tup rfl (pgs_cons (pg_name (i := 4) nd rfl (Or.inl rfl)) (pgs_cons (pg_name (i := 5) nd rfl (Or.inl rfl)) (pgs_cons (pg_name (i := 6) nd rfl (Or.inl rfl)) pgs_nil)))))
        (pss_cons (ps_par (i := 7) (j := 8) (by rfl) nd rfl rfl (by decide) rfl rfl (pa_cons (pe_make M FI (hr.mono (by decide)) rfl hR gi.b .nil pass0 (pa_cons (pv 4) pa_nil))
            (pa_cons (pe_make M FI (hr.mono (by decide)) rfl hR gi.b .nil pass0 (pa_cons (pe_op op_catA (pv 4) (pe_op op_repA (pe_tup (pa_cons pe_int pa_nil)) (pe_g cN hr (by decide) (pa_cons (pv 1) (pa_cons pe_int pa_nil))))) pa_nil)) pa_nil)) (by rfl))
        (pss_cons (ps_for PassesOwn.never rfl (pi_zip rfl T.zZip (pa_cons (pv 3) (pa_cons (pv 5) pa_nil))) (pg_tup rfl (pgs_cons (pg_tup rfl (pgs_cons (pg_name (i := 9) nd rfl (Or.inl rfl)) (pgs_cons (pg_name (i := 10) nd rfl (Or.inl rfl)) pgs_nil))) (pgs_cons (pg_name (i := 11) nd rfl (Or.inl rfl)) pgs_nil)))
          (pss_one (ps_if (PW.pt (pw_or (pt_cmpR op_ne (pe_g cE hr (by decide) (pa_cons (pv 7) (pa_cons (pv 9) (pa_cons (pv 10) pa_nil)))) (pv 11) (nomark _)) (pw_or1 (pt_cmpR op_ne (pe_g cE hr (by decide) (pa_cons (pv 8) (pa_cons (pv 9) (pa_cons (pv 10) pa_nil)))) (pv 11) (nomark _)))))
            (pss_one (ps_ret pe_bl)) pss_nil)))
        (pss_cons (ps_if (PW.pt (pw_or (pt_cmpR (op_ne_dictA (Nat.lt_of_succ_lt hu)) (pe_m0 mC hr (by decide) (pv 7)) (pv 6) (nomark _))
            (pw_or1 (pt_cmpR (op_neD hr.units) (pe_callTy (call_list_dK rfl) (by rfl) T.zList (by decide +kernel) (pa_cons (pe_m0 mC hr (by decide) (pv 8)) pa_nil)) (pe_callB cr_sortedS (by rfl) T.zSorted (by decide +kernel) (pa_cons (pe_callTy (call_list_dK rfl) (by rfl) T.zList (by decide +kernel) (pa_cons (pv 6) pa_nil)) pa_nil)) (nomark _)))))
            (pss_one (ps_ret pe_bl)) pss_nil)
        (pss_one (ps_for PassesOwn.never rfl (pi_range1 rfl T.zRange (pa_cons pe_int pa_nil)) (pg_name (i := 12) nd rfl (Or.inl rfl))
          (pss_one (ps_if (pt_not (pt_val (pe_g cK hr (by decide) (pa_cons (pv 3) (pa_cons (pe_g cT hr (by decide) (pa_cons (pv 1) (pa_cons (pv 4) pa_nil))) pa_nil))))) (pss_one (ps_ret pe_bl)) pss_nil))))))))))
      (pss_one (ps_ret pe_bl))), ?_⟩
    refine ⟨_, rfl, a, ns, rfl, hS, fun q c H0 s0 nq nc st => ?_⟩
    refine ⟨_, rfl, a, _, rfl, .inl (s0.seq hS), _, _, rfl, _, _, rfl, ?_⟩
    obtain ⟨t, ht, ht63⟩ : ∃ t : Nat, (if (1 : Int) < (if (8 : Int) < (((ns.map V.int).length : Nat) : Int) then 8 else (((ns.map V.int).length : Nat) : Int)) then (if (8 : Int) < (((ns.map V.int).length : Nat) : Int) then 8 else (((ns.map V.int).length : Nat) : Int)) else 1) = (t : Int) ∧ t ≤ 8 := by
      generalize (((ns.map V.int).length : Nat) : Int) = z
      by_cases h1 : (8 : Int) < z
      · exact ⟨8, by rw [if_pos h1]; rfl, Nat.le_refl _⟩
      · rw [if_neg h1]
        by_cases h2 : (1 : Int) < z
        · exact ⟨z.toNat, by rw [if_pos h2]; omega, by omega⟩
        · exact ⟨1, by rw [if_neg h2]; rfl, by decide⟩
    refine ⟨(t : Int), congrArg (fun z => [V.int z]) ht, by show -(2 ^ 62) ≤ (t : Int); omega, by show (t : Int) < 2 ^ 62; omega, for_range (n := t) (fun i σ H' => (∃ v2 v3 v4 v5 v6 v7 v8 v9 v10 v11 v12 : Option V, σ = [some (.ref a), some (.ref q), v2, v3, v4, v5, v6, v7, v8, v9, v10, v11, v12]) ∧ StOk H' q c ns)
      ⟨⟨none, none, none, none, none, none, none, none, none, none, none, rfl⟩, st⟩ ?_ ?_⟩
    rotate_left
    · rintro σ H' ⟨⟨v2, v3, v4, v5, v6, v7, v8, v9, v10, v11, v12, rfl⟩, _⟩
      exact k H'
    rintro i σ H1 hi ⟨⟨v2, v3, v4, v5, v6, v7, v8, v9, v10, v11, v12, rfl⟩, st1⟩
    -- what is asked
    refine ⟨_, rfl, _, rfl, q, c, ns, 90, rfl, by decide, by decide, st1, fun r H2 r0 r1 st2 kp2 => ?_⟩
    obtain ⟨m, rfl⟩ : ∃ m : Nat, r = (m : Int) := ⟨r.toNat, by omega⟩
    refine ⟨q, c, ns, m, rfl, by omega, st2, fun ap H3 ts as st3 kp3 hap0 hap pA hal kn => ?_⟩
    -- what is written
    refine ⟨_, rfl, _, rfl, q, c, ap, ns, ts, as, rfl, st3, hap, pA, by omega, kn, fun rr tl vl cc H4 L ps ys st4 kp4 hr0 hrr htl hvl hcc hps hfit hgood hin hLl hperm hsrt => ?_⟩
    refine ⟨rr, _, rfl, .inl (.inl hrr), rfl, _, _, rfl, _, _, rfl, _, _, rfl, rfl, ?_⟩
    have kps : ∀ p ∈ ps, Known p.1 := fun p hp => kn _ (by rw [← hps]; exact List.mem_map.mpr ⟨p, hp, rfl⟩)
    have wkn : Kn NL (wrs nk ps cs0).lrn := kn_wrs ps (s := cs0) kn0 fun p hp => ⟨hfit p hp, known_of (kps p hp)⟩
    have wlen := kn52 wkn
    obtain ⟨lf3, af3, e31, e32⟩ := id st3
    obtain ⟨lf4, af4, e41, e42⟩ := id st4
    have hap4 : H4 ap = some (.lst (ts.map V.ref)) := kp4 _ _ hap (ne_of hap e31 (by intro z; cases z))
    have pA4 : Paired (AskAt H4) ts as := asks_keep e31 kp4 pA
    -- a reader of them
    refine ⟨_, rfl, fun x dx nx ndx nex => ?_⟩
    refine ⟨x, dx, tl, L, rfl, upd_same, .inr ?_, fun d H5 hd c5 k5 => ⟨rfl, ?_⟩⟩
    · exact .inl (.inl (by rw [upd_ne (ne_of_none htl nx), upd_ne (ne_of_none htl ndx)]; exact htl))
    have s5 : Same H4 H5 := fun u o e => k5 u o (by rw [upd_ne (ne_of_none e nx), upd_ne (ne_of_none e ndx)]; exact e) (ne_of_none e nx)
    have st5 := st4.same s5
    obtain ⟨dy, fs0, g1, g2, gn0⟩ := c5.ob famR_ok
    have hd4 : H4 d = none := by
      have n1 : d ≠ x := fun e => by rw [e, upd_same] at hd; cases hd
      rw [upd_ne n1] at hd
      have n2 : d ≠ dx := fun e => by rw [e, upd_same] at hd; cases hd
      rw [upd_ne n2] at hd
      exact hd
    -- a reader of them with noughts behind
    refine zeros_arg (c := c) (ns := ns) (L := L) rfl rfl (.inl (.inl (s5 _ _ htl))) hLl st5 fun p6 H6 z st6 kp6 hT6 => ?_
    intro x2 dx2 nx2 ndx2 nex2
    obtain ⟨lf5, af5, e51, e52⟩ := id st5
    obtain ⟨lf6, af6, e61, e62⟩ := id st6
    refine ⟨x2, dx2, p6, L ++ List.replicate z 0, rfl, upd_same, .inr (same_tup ((same_new ndx2).trans (same_new (by rw [upd_ne nex2.symm]; exact nx2))) hT6), fun d2 H7 hd2 c7 k7 => ⟨rfl, ?_⟩⟩
    have s7 : Same H6 H7 := fun u o e => k7 u o (by rw [upd_ne (ne_of_none e nx2), upd_ne (ne_of_none e ndx2)]; exact e) (ne_of_none e nx2)
    have hd6 : H6 d2 = none := by
      have n1 : d2 ≠ x2 := fun e => by rw [e, upd_same] at hd2; cases hd2
      rw [upd_ne n1] at hd2
      have n2 : d2 ≠ dx2 := fun e => by rw [e, upd_same] at hd2; cases hd2
      rw [upd_ne n2] at hd2
      exact hd2
    have nx25 : H5 x2 = none := kp6.free e61 nx2
    have nd25 : H5 d2 = none := kp6.free e61 hd6
    have nx24 : H4 x2 = none := s5.free nx25
    have nd24 : H4 d2 = none := s5.free nd25
    have xx : x ≠ x2 := ne_of_none g1 nx25
    have dd : d ≠ d2 := ne_of_none g2 nd25
    have c51 : CAt cR (FamR K L) H7 x d cs0 := (c5.kp1 famR_ok e51 kp6 (ne_of_none e41 hd4).symm).same famR_ok s7
    have kp47 : Kp1 q H4 H7 := (kp1_same s5).trans (kp6.trans (kp1_same s7))
    have good2 : Good (L ++ List.replicate z 0) := good_append hgood fun y hy => by rw [(List.mem_replicate.mp hy).2]; decide
    have hin2 : In (L ++ List.replicate z 0) (wrs nk ps cs0) := by
      unfold In
      rw [cd_zeros]
      exact hin
    have plen : ps.length = as.length := by rw [← hps, List.length_map]
    have tlen : ts.length = as.length := Paired.length pA
    refine ⟨_, _, rfl, _, rfl, _, rfl, ap, vl, _, _, rfl, SqL.of (kp47 _ _ hap4 (ne_of hap4 e41 (by intro z; cases z))), SqL.of (kp47 _ _ hvl (ne_of hvl e41 (by intro z; cases z))), ?_⟩
    refine RZ.for_zipL (K := K) (xs := ts.map V.ref) (ys := ps.map fun p => V.int p.2) (by rw [List.length_map, List.length_map, plen, tlen]) (fun j σ H' => (∃ v9 v10 v11 : Option V, σ = [some (.ref a), some (.ref q), some (.int (0 + (i : Int))), some (.ref ap), some (.ref tl), some (.ref vl), some (.ref cc), some (.ref x), some (.ref x2), v9, v10, v11, v12]) ∧
      CAt cR (FamR K L) H' x d (wrs nk (ps.take j) cs0) ∧ CAt cR (FamR K (L ++ List.replicate z 0)) H' x2 d2 (wrs nk (ps.take j) cs0) ∧ StOk H' q c ns ∧ Kp1 q H4 H') ⟨⟨_, _, _, rfl⟩, c51, c7, st6.same s7, kp47⟩
      (fun j σ H' ⟨_, _, _, _, kp⟩ => ⟨SqL.of (kp _ _ hap4 (ne_of hap4 e41 (by intro z; cases z))), SqL.of (kp _ _ hvl (ne_of hvl e41 (by intro z; cases z)))⟩) ?_ ?_
    · rintro j y1 y2 Tn σ H8 hy1 hy2 ⟨⟨v9, v10, v11, rfl⟩, cA8, cB8, st8, kp8⟩ hTn
      obtain ⟨p, hp, rfl⟩ : ∃ p, ps[j]? = some p ∧ y2 = V.int p.2 := by
        rw [List.getElem?_map] at hy2
        cases hz : ps[j]? with
        | none => rw [hz] at hy2; cases hy2
        | some p => rw [hz] at hy2; exact ⟨p, rfl, (Option.some.inj hy2).symm⟩
      obtain ⟨tt, htt, rfl⟩ : ∃ tt, ts[j]? = some tt ∧ y1 = V.ref tt := by
        rw [List.getElem?_map] at hy1
        cases hz : ts[j]? with
        | none => rw [hz] at hy1; cases hy1
        | some tt => rw [hz] at hy1; exact ⟨tt, rfl, (Option.some.inj hy1).symm⟩
      obtain ⟨ak, hak, tA⟩ := LiI.paired_get pA4 htt
      have hpk : ak = p.1 := by
        rw [← hps, List.getElem?_map, hp] at hak
        exact (Option.some.inj hak).symm
      subst hpk
      have kak : Known p.1 := kps p (List.mem_of_getElem? hp)
      have sT := same_new (o := .tup [V.ref tt, V.int p.2]) hTn
      have eA := reads (nk := nk) hgood ok0 hfit hin hp
      have eB := reads (nk := nk) good2 ok0 hfit hin2 hp
      have ok8 : Ok (wrs nk (ps.take j) cs0) := wrs_ok _ ok0
      have ln8 := kn52 (kn_wrs (ps.take j) (s := cs0) kn0 fun p hp => ⟨hfit p (List.mem_of_mem_take hp), known_of (kps p (List.mem_of_mem_take hp))⟩)
      generalize wrs nk (ps.take j) cs0 = S at *
      generalize wrs nk (ps.take (j + 1)) cs0 = S' at *
      have cA9 := cA8.same famR_ok sT
      have cB9 := cB8.same famR_ok sT
      obtain ⟨dw, fw, w1, w2, wn⟩ := cA9.ob famR_ok
      refine ⟨Tn, _, rfl, .inl (.inl upd_same), rfl, _, _, rfl, tt, _, rfl, .inl (.inl (sT _ _ (kp8 _ _ tA (ne_of tA e41 (by intro z; cases z))))), rfl, _, _, rfl, _, _, rfl, rfl, _, _, rfl, rfl, ?_⟩
      refine ⟨_, rfl, _, rfl, _, rfl, x, d, L, S, p.1, rfl, kak, cA9, ok8, by omega, fun H9 c9 k9 => ?_⟩
      rw [eA] at c9 ⊢
      refine ⟨_, rfl, rfl, _, rfl, ?_⟩
      rw [show (!decide (V.int (p.2, S').1 = V.int p.2)) = false by rw [decide_eq_true rfl]; rfl]
      refine iteF ?_
      have cB10 : CAt cR (FamR K (L ++ List.replicate z 0)) H9 x2 d2 S := cB9.kpO famR_ok w1 w2 k9 xx.symm dd.symm
      obtain ⟨dv, fv, u1, u2, un⟩ := cB10.ob famR_ok
      refine ⟨_, rfl, _, rfl, _, rfl, x2, d2, L ++ List.replicate z 0, S, p.1, rfl, kak, cB10, ok8, by omega, fun H10 c10 k10 => ?_⟩
      rw [eB] at c10 ⊢
      refine ⟨_, rfl, rfl, _, rfl, ?_⟩
      rw [show (!decide (V.int (p.2, S').1 = V.int p.2)) = false by rw [decide_eq_true rfl]; rfl]
      refine iteF ?_
      have kp10 : Kp1 q H4 H10 := fun b o e hb => k10 b o (k9 b o (sT b o (kp8 b o e hb)) (ne_of_none e nx) (ne_of_none e hd4)) (ne_of_none e nx24) (ne_of_none e nd24)
      refine ⟨⟨_, _, _, rfl⟩, c9.kpO famR_ok u1 u2 k10 xx dd, c10, ?_, kp10⟩
      exact ((st8.same sT).kp k9 (ne_of_none e41 nx) (ne_of_none e41 hd4) (ne_of_none e42 nx) (ne_of_none e42 hd4)).kp k10 (ne_of_none e41 nx24) (ne_of_none e41 nd24) (ne_of_none e42 nx24) (ne_of_none e42 nd24)
    rintro σ H8 ⟨⟨v9, v10, v11, rfl⟩, cA8, cB8, st8, kp8⟩
    rw [List.length_map, tlen, ← plen, List.take_of_length_le (Nat.le_refl _)] at cA8 cB8
    generalize hW : wrs nk ps cs0 = W at *
    obtain ⟨dw, fw, w1, w2, wn⟩ := cA8.ob famR_ok
    obtain ⟨T1, hF1, ct1⟩ := id cA8
    have ndy : ys.Nodup := hperm.nodup_iff.mpr wkn.nd
    have kcc : ∀ {H' : Hp}, Kp1 q H4 H' → H' cc = some (.dK (kvs (srt ys W.lrn))) := fun kp => kp _ _ hcc (fun e => by
      rw [e, e41] at hcc
      have h1 : sd lf4 af4 c = kvs (srt ys W.lrn) := HO.dK.inj (Option.some.inj hcc)
      have h2 : ((Sum.inr "left" : Key), V.int lf4) ∈ kvs (srt ys W.lrn) := by rw [← h1]; exact List.mem_cons_self ..
      obtain ⟨y, hy, e2⟩ := List.mem_map.mp h2
      obtain ⟨y', hy', rfl⟩ := List.mem_map.mp hy
      have e3 : y' = "left" := Sum.inr.inj (congrArg Prod.fst e2)
      rw [e3] at hy'
      exact absurd (wkn.sub _ (hperm.mem_iff.mp hy')) left_out)
    have hok : ∀ y ∈ ys, PyData.strOk y = true := fun y hy => nl_ok y (wkn.sub _ (hperm.mem_iff.mp hy))
    refine ⟨_, rfl, x, dw, fw, rfl, w1, wn _ (by decide +kernel), x, d, _, W, rfl, ct1, wkn.nd, by omega, fun cc1 H9 ys1 s9 hcc1 perm1 srt1 h9 => ?_⟩
    have ey : ys1 = ys := rows_one (perm1.trans hperm.symm) (sorted_up srt1) (sorted_up hsrt)
    subst ey
    have kp9 : Kp1 q H4 H9 := kp8.trans (kp1_same s9)
    refine ⟨_, rfl, cc1, cc, _, _, rfl, rfl, h9, kcc kp9, rfl, val_self (by rw [srt_names]; exact ndy), _, rfl, iteF ?_⟩
    obtain ⟨dv, fv, u1, u2, un⟩ := (cB8.same famR_ok s9).ob famR_ok
    obtain ⟨T2, hF2, ct2⟩ := id (cB8.same famR_ok s9)
    refine ⟨_, rfl, x2, dv, fv, rfl, u1, un _ (by decide +kernel), x2, d2, _, W, rfl, ct2, wkn.nd, by omega, fun cc2 H10 ys2 s10 hcc2 perm2 srt2 h10 => ?_⟩
    have ey : ys2 = ys1 := rows_one (perm2.trans hperm.symm) (sorted_up srt2) (sorted_up hsrt)
    subst ey
    have kp10 : Kp1 q H4 H10 := kp9.trans (kp1_same s10)
    refine ⟨cc2, _, rfl, h10, fun l1 hl1 => ?_⟩
    have s11 := same_new (o := .lst ((kvs (srt ys2 W.lrn)).map fun kv => kV kv.1)) hl1
    refine ⟨_, rfl, cc, _, rfl, kcc (kp10.trans (kp1_same s11)), fun l2 hl2 => ?_⟩
    have s12 := same_new (o := .lst ((kvs (srt ys2 W.lrn)).map fun kv => kV kv.1)) hl2
    have elist : ((kvs (srt ys2 W.lrn)).map fun kv => kV kv.1) = ys2.map V.str := by rw [kvs_list, srt_names]
    rw [elist] at s11 s12 ⊢
    refine ⟨l2, ys2, rfl, SqL.of upd_same, ?_, fun ys3 l3 perm3 srt3 hl3 => ?_⟩
    · have h1 := hperm.length_eq
      rw [names_len] at h1
      omega
    have ey : ys3 = ys2 := rows_one perm3 (sorted_up srt3) (sorted_up hsrt)
    subst ey
    have s13 := same_new (o := .lst (ys3.map V.str)) hl3
    refine ⟨_, _, .lst (SqL.of ((s12.trans s13) _ _ upd_same)) (dp_strs ys3), .lst (SqL.of upd_same) (dp_strs ys3), shaped_strs hok, shaped_strs hok, ?_⟩
    rw [eqv_strs hok]
    refine ⟨_, rfl, iteF ?_⟩
    have s813 : Same H8 _ := (s9.trans s10).trans ((s11.trans s12).trans s13)
    -- bent letters
    refine ⟨3, rfl, by decide, by decide, for_range (n := 3) (fun j σ H' => (∃ z12 : Option V, σ = [some (.ref a), some (.ref q), some (.int (0 + (i : Int))), some (.ref ap), some (.ref tl), some (.ref vl), some (.ref cc), some (.ref x), some (.ref x2), v9, v10, v11, z12]) ∧ StOk H' q c ns ∧ Kp1 q H4 H')
      ⟨⟨_, rfl⟩, st8.same s813, kp8.trans (kp1_same s813)⟩ ?_ ?_⟩
    · rintro j σ H14 hj ⟨⟨z12, rfl⟩, st14, kp14⟩
      have hT14 : SqT K H14 tl (L.map V.int) := .inl (.inl (kp14 _ _ htl (ne_of htl e41 (by intro z; cases z))))
      refine ⟨_, rfl, _, rfl, _, rfl, q, c, tl, ns, L, rfl, st14, hT14, hgood, hLl, fun p15 H15 M15 st15 kp15 hT15 gM15 hM15 => ?_⟩
      have kp4_15 : Kp1 q H4 H15 := kp14.trans kp15
      refine ⟨ap, p15, ts, as, M15, rfl, kp4_15 _ _ hap4 (ne_of hap4 e41 (by intro z; cases z)), asks_keep e41 kp4_15 pA4, kn, hT15, hM15, fun H16 s16 => ?_⟩
      refine ⟨_, rfl, iteF ?_⟩
      exact ⟨⟨_, rfl⟩, st15.same s16, kp4_15.trans (kp1_same s16)⟩
    · rintro σ H14 ⟨⟨z12, rfl⟩, st14, kp14⟩
      exact ⟨⟨_, _, _, _, _, _, _, _, _, _, _, rfl⟩, st14⟩
end
end K11
namespace K11
open PySem L2
/-! ### all defs of the text, joined -/
structure Parts (K : PySem.W.Frag) (mg : Str → Option Value) (cC cW cR : Addr) where
  T : Txt K mg
  W : CCls K cW
  R : CCls K cR
  hC : mg "Coder" = some (.ref cC)
  hW : mg "Writer" = some (.ref cW)
  hR : mg "Reader" = some (.ref cR)
  rC : ClX.CRead K cC (.type "type")
  agWh : Addr
  dgWh : FuncData
  gWh : GDef K mg "is_whole" sWhole ["thing", "least", "most"] agWh dgWh
  agSg : Addr
  dgSg : FuncData
  gSg : GDef K mg "signs_in" sSigns ["number"] agSg dgSg
  agLo : Addr
  dgLo : FuncData
  gLo : GDef K mg "lower_signs" sLower ["number", "many"] agLo dgLo
  agLi : Addr
  dgLi : FuncData
  gLi : GDef K mg "letters_in" sLetIn ["number", "many"] agLi dgLi
  agNe : Addr
  dgNe : FuncData
  gNe : GDef K mg "need_sign" sNeed ["value"] agNe dgNe
  agBe : Addr
  dgBe : FuncData
  gBe : GDef K mg "_law_begin" lBegin ["_law_script"] agBe dgBe
  agMo : Addr
  dgMo : FuncData
  gMo : GDef K mg "_law_more" lMore ["_law_state"] agMo dgMo
  agNx : Addr
  dgNx : FuncData
  gNx : GDef K mg "_law_next" lNext ["_law_state", "_law_most"] agNx dgNx
  agPi : Addr
  dgPi : FuncData
  gPi : GDef K mg "_law_pick" lPick ["_law_state", "_law_some"] agPi dgPi
  agCo : Addr
  dgCo : FuncData
  gCo : GDef K mg "_law_coder" lCoder ["_law_letters_here"] agCo dgCo
  agSi : Addr
  dgSi : FuncData
  gSi : GDef K mg "_law_sign" lSign ["_law_coder_here", "_law_name", "_law_value"] agSi dgSi
  agPo : Addr
  dgPo : FuncData
  gPo : GDef K mg "_law_power" lPower ["_law_number_here"] agPo dgPo
  agNu : Addr
  dgNu : FuncData
  gNu : GDef K mg "_law_number" lNumber ["_law_coder_here", "_law_name", "_law_n", "_law_most"] agNu dgNu
  agAs : Addr
  dgAs : FuncData
  gAs : GDef K mg "_law_asks" lAsks ["_law_state", "_law_many"] agAs dgAs
  agWr : Addr
  dgWr : FuncData
  gWr : GDef K mg "_law_written" lWritten ["_law_state", "_law_asks_here"] agWr dgWr
  agRe : Addr
  dgRe : FuncData
  gRe : GDef K mg "_law_read" lRead ["_law_reader", "_law_name", "_law_most"] agRe dgRe
  agBt : Addr
  dgBt : FuncData
  gBt : GDef K mg "_law_bent" lBent ["_law_state", "_law_some"] agBt dgBt
  agKe : Addr
  dgKe : FuncData
  gKe : GDef K mg "_law_as_kept" lKept ["_law_asks_here", "_law_some"] agKe dgKe
  agLa : Addr
  dgLa : FuncData
  gLa : GDef K mg "law" lLaw ["_law_script"] agLa dgLa
  amCI : Addr
  dmCI : FuncData
  mCI : MDef K "__init__" "Coder.__init__" sCInit ["self"] amCI dmCI
  mCIW : Meth K cW "__init__" amCI
  amCs : Addr
  dmCs : FuncData
  mCs : MDef K "chances" "Coder.chances" sChances ["self"] amCs dmCs
  mCsW : Meth K cW "chances" amCs
  mCsR : Meth K cR "chances" amCs
  amCh : Addr
  dmCh : FuncData
  mCh : MDef K "chance_of" "Coder.chance_of" sChance ["self", "name"] amCh dmCh
  mChW : Meth K cW "chance_of" amCh
  mChR : Meth K cR "chance_of" amCh
  amNa : Addr
  dmNa : FuncData
  mNa : MDef K "narrowed" "Coder.narrowed" sNarrow ["self", "part", "value"] amNa dmNa
  mNaW : Meth K cW "narrowed" amNa
  mNaR : Meth K cR "narrowed" amNa
  amCa : Addr
  dmCa : FuncData
  mCa : MDef K "came" "Coder.came" sCame0 ["self"] amCa dmCa
  mCaW : Meth K cW "came" amCa
  amLe : Addr
  dmLe : FuncData
  mLe : MDef K "learn" "Coder.learn" sLearn ["self", "name", "chance", "value"] amLe dmLe
  mLeW : Meth K cW "learn" amLe
  mLeR : Meth K cR "learn" amLe
  amWb : Addr
  dmWb : FuncData
  mWb : MDef K "bit" "Writer.bit" sWBit ["self", "name", "value"] amWb dmWb
  mWbW : Meth K cW "bit" amWb
  amWe : Addr
  dmWe : FuncData
  mWe : MDef K "even" "Writer.even" sWEven ["self", "value"] amWe dmWe
  mWeW : Meth K cW "even" amWe
  amWn : Addr
  dmWn : FuncData
  mWn : MDef K "number" "Writer.number" sWNum ["self", "name", "n", "most"] amWn dmWn
  mWnW : Meth K cW "number" amWn
  amWl : Addr
  dmWl : FuncData
  mWl : MDef K "letters" "Writer.letters" sWLet ["self"] amWl dmWl
  mWlW : Meth K cW "letters" amWl
  amRI : Addr
  dmRI : FuncData
  mRI : MDef K "__init__" "Reader.__init__" sRInit ["self", "letters"] amRI dmRI
  mRIR : Meth K cR "__init__" amRI
  amSa : Addr
  dmSa : FuncData
  mSa : MDef K "sign_at" "Reader.sign_at" sSignAt ["self", "at"] amSa dmSa
  mSaR : Meth K cR "sign_at" amSa
  amRc : Addr
  dmRc : FuncData
  mRc : MDef K "came" "Reader.came" sCameR ["self"] amRc dmRc
  mRcR : Meth K cR "came" amRc
  amRy : Addr
  dmRy : FuncData
  mRy : MDef K "read_by" "Reader.read_by" sReadBy ["self", "chance"] amRy dmRy
  mRyR : Meth K cR "read_by" amRy
  amRb : Addr
  dmRb : FuncData
  mRb : MDef K "bit" "Reader.bit" sRBit ["self", "name"] amRb dmRb
  mRbR : Meth K cR "bit" amRb
  amRe : Addr
  dmRe : FuncData
  mRe : MDef K "even" "Reader.even" sREven ["self"] amRe dmRe
  mReR : Meth K cR "even" amRe
  amRn : Addr
  dmRn : FuncData
  mRn : MDef K "number" "Reader.number" sRNum ["self", "name", "most"] amRn dmRn
  mRnR : Meth K cR "number" amRn
  cf : CFn K cC (.type "type") "__init__" amCI
  kW : Mk K cW amCI
  kR : Mk K cR amRI
section
variable {P : Program} {w : World} {K : PySem.W.Frag} {mg : Str → Option Value} {base : Heap}
theorem all_ok {cC cW cR : Addr} (p : Parts K mg cC cW cR) : FnOk P w K mg base CX0 9 p.agLa p.dgLa ["_law_script"] (spLaw K) := by
  have T := p.T
  have W := p.W
  have R := p.R
  have whole : Cal P w K mg base 1 "is_whole" spWhole := p.gWh.cal (ok_whole p.gWh T)
  have signs : Cal P w K mg base 1 "signs_in" spSigns := p.gSg.cal (ok_signs p.gSg)
  have lower : Cal P w K mg base 1 "lower_signs" spLower := p.gLo.cal (ok_lower p.gLo T)
  have letIn : Cal P w K mg base 1 "letters_in" spLetIn := p.gLi.cal (ok_letIn p.gLi T)
  have need : Cal P w K mg base 2 "need_sign" spNeed := p.gNe.cal (ok_need p.gNe whole)
  -- a writer
  have iW : FnOk P w K mg base CX0 1 p.amCI p.dmCI ["self"] (spCInit cW) := ok_cinit p.mCI T W
  have chW : Met P w K mg base 1 cW "chance_of" (spChance cW) := p.mCh.met W.cl p.mChW (ok_chance p.mCh T W)
  have leW : Met P w K mg base 1 cW "learn" (spLearn cW) := p.mLe.met W.cl p.mLeW (ok_learn p.mLe T W)
  have csW : Met P w K mg base 1 cW "chances" (spChances cW) := p.mCs.met W.cl p.mCsW (ok_chances p.mCs T W)
  have caW : Met P w K mg base 2 cW "came" (spCame cW FamW) := p.mCa.met W.cl p.mCaW ((ok_cameW p.mCa).mono (by decide))
  have naW : Met P w K mg base 3 cW "narrowed" (spNar cW FamW) := p.mNa.met W.cl p.mNaW (ok_narrow famW_ok p.mNa T W caW)
  have bitW : Met P w K mg base 4 cW "bit" (spWBit cW) := p.mWb.met W.cl p.mWbW (ok_wbit p.mWb T W need chW naW leW)
  have evW : Met P w K mg base 4 cW "even" (spWEven cW) := p.mWe.met W.cl p.mWeW (ok_weven p.mWe T W need naW)
  have nuW : Met P w K mg base 5 cW "number" (spWNum cW) := p.mWn.met W.cl p.mWnW (ok_wnum p.mWn T W whole signs lower bitW evW)
  have ltW : Met P w K mg base 2 cW "letters" (spWLet cW) := p.mWl.met W.cl p.mWlW (ok_wlet p.mWl T W letIn)
  -- a reader
  have iR0 : FnOk P w K mg base CX0 1 p.amCI p.dmCI ["self"] (spCInit cR) := ok_cinit p.mCI T R
  have saR : Met P w K mg base 1 cR "sign_at" (spSignAt K cR) := p.mSa.met R.cl p.mSaR (ok_signAt p.mSa T R)
  have iR : FnOk P w K mg base CX0 2 p.amRI p.dmRI ["self", "letters"] (spRInit K cR) := ok_rinit p.mRI T R p.hC p.rC p.cf p.mCI iR0 saR
  have chR : Met P w K mg base 1 cR "chance_of" (spChance cR) := p.mCh.met R.cl p.mChR (ok_chance p.mCh T R)
  have leR : Met P w K mg base 1 cR "learn" (spLearn cR) := p.mLe.met R.cl p.mLeR (ok_learn p.mLe T R)
  have csR : Met P w K mg base 1 cR "chances" (spChances cR) := p.mCs.met R.cl p.mCsR (ok_chances p.mCs T R)
  have naR : ∀ L, Met P w K mg base 3 cR "narrowed" (spNar cR (FamR K L)) := fun L => p.mNa.met R.cl p.mNaR (ok_narrow famR_ok p.mNa T R (p.mRc.met R.cl p.mRcR (ok_cameR p.mRc T R saR L)))
  have ryR : Met P w K mg base 4 cR "read_by" (spReadBy K cR) := p.mRy.met R.cl p.mRyR (ok_readBy p.mRy T R naR)
  have bitR : Met P w K mg base 5 cR "bit" (spRBit K cR) := p.mRb.met R.cl p.mRbR (ok_rbit p.mRb R chR ryR leR)
  have evR : Met P w K mg base 5 cR "even" (spREven K cR) := p.mRe.met R.cl p.mReR (ok_reven p.mRe T R ryR)
  have nuR : Met P w K mg base 6 cR "number" (spRNum K cR) := p.mRn.met R.cl p.mRnR (ok_rnum p.mRn T R whole signs bitR evR)
  -- the law's own
  have begin_ : Cal P w K mg base 1 "_law_begin" (spBegin K) := p.gBe.cal (ok_begin p.gBe T)
  have more : Cal P w K mg base 1 "_law_more" spMore := p.gMo.cal (ok_more p.gMo T)
  have next : Cal P w K mg base 2 "_law_next" spNext := p.gNx.cal (ok_next p.gNx more)
  have pick : Cal P w K mg base 3 "_law_pick" (spPick K) := p.gPi.cal (ok_pick p.gPi T next)
  have coder : Cal P w K mg base 1 "_law_coder" (spCoder K) := p.gCo.cal (ok_coder p.gCo T)
  have sign : Cal P w K mg base 1 "_law_sign" (spSign K) := p.gSi.cal (ok_sign p.gSi T)
  have power : Cal P w K mg base 1 "_law_power" spSigns := p.gPo.cal (ok_power p.gPo)
  have number : Cal P w K mg base 2 "_law_number" (spNumK K) := p.gNu.cal (ok_numK p.gNu T power sign)
  have asks : Cal P w K mg base 4 "_law_asks" spAsks := p.gAs.cal (ok_asks p.gAs T next pick)
  have written : Cal P w K mg base 6 "_law_written" spWritten := p.gWr.cal (ok_written p.gWr T p.kW p.hW p.mCI iW next pick nuW evW bitW ltW csW)
  have read : Cal P w K mg base 7 "_law_read" (spRead K cR) := p.gRe.cal (ok_read p.gRe nuR evR bitR)
  have bent : Cal P w K mg base 3 "_law_bent" (spBent K) := p.gBt.cal (ok_bent p.gBt T next)
  have kept : Cal P w K mg base 8 "_law_as_kept" (spKept K) := p.gKe.cal (ok_kept p.gKe T p.kR p.hR p.mRI iR coder sign number read csR)
  exact ok_law p.gLa T p.kR p.hR p.mRI iR begin_ next asks written read csR kept bent
end
/-! ### what the top has written -/
theorem all_mk {l : PySem.W.OpenLaw} {w : World} {K : PySem.W.Frag} {h : Heap} {mg : Str → Option Value} {fa cC cW cR fgWh fgSg fgLo fgLi fgNe fgBe fgMo fgNx fgPi fgCo fgSi fgPo fgNu fgAs fgWr fgRe fgBt fgKe fgLa fmCI fmCs fmCh fmNa fmCa fmLe fmWb fmWe fmWn fmWl fmRI fmSa fmRc fmRy fmRb fmRe fmRn : Addr} (X : K.In h) (G : h.Ns mainGlobals mg) (hfa : mg "law" = some (.ref fa))
    (hX : (∃ t, mg "LEAST_BREADTH" = some (.int 16777216 t)) ∧ ∃ t, mg "FIRST_BREADTH" = some (.int 4294967296 t)) {tcEven tcWhole tcSlow tcAhead tcMost : Tok}
    {odgWh angWh : Option Addr} {slgWh : Array (Option Value)} {ocgWh kVgWh dcgWh pmgWh cdgWh ctgWh : Value}
    {odgSg angSg : Option Addr} {slgSg : Array (Option Value)} {ocgSg kVgSg dcgSg pmgSg cdgSg ctgSg : Value}
    {odgLo angLo : Option Addr} {slgLo : Array (Option Value)} {ocgLo kVgLo dcgLo pmgLo cdgLo ctgLo : Value}
    {odgLi angLi : Option Addr} {slgLi : Array (Option Value)} {ocgLi kVgLi dcgLi pmgLi cdgLi ctgLi : Value}
    {odgNe angNe : Option Addr} {slgNe : Array (Option Value)} {ocgNe kVgNe dcgNe pmgNe cdgNe ctgNe : Value}
    {odgBe angBe : Option Addr} {slgBe : Array (Option Value)} {ocgBe kVgBe dcgBe pmgBe cdgBe ctgBe : Value}
    {odgMo angMo : Option Addr} {slgMo : Array (Option Value)} {ocgMo kVgMo dcgMo pmgMo cdgMo ctgMo : Value}
    {odgNx angNx : Option Addr} {slgNx : Array (Option Value)} {ocgNx kVgNx dcgNx pmgNx cdgNx ctgNx : Value}
    {odgPi angPi : Option Addr} {slgPi : Array (Option Value)} {ocgPi kVgPi dcgPi pmgPi cdgPi ctgPi : Value}
    {odgCo angCo : Option Addr} {slgCo : Array (Option Value)} {ocgCo kVgCo dcgCo pmgCo cdgCo ctgCo : Value}
    {odgSi angSi : Option Addr} {slgSi : Array (Option Value)} {ocgSi kVgSi dcgSi pmgSi cdgSi ctgSi : Value}
    {odgPo angPo : Option Addr} {slgPo : Array (Option Value)} {ocgPo kVgPo dcgPo pmgPo cdgPo ctgPo : Value}
    {odgNu angNu : Option Addr} {slgNu : Array (Option Value)} {ocgNu kVgNu dcgNu pmgNu cdgNu ctgNu : Value}
    {odgAs angAs : Option Addr} {slgAs : Array (Option Value)} {ocgAs kVgAs dcgAs pmgAs cdgAs ctgAs : Value}
    {odgWr angWr : Option Addr} {slgWr : Array (Option Value)} {ocgWr kVgWr dcgWr pmgWr cdgWr ctgWr : Value}
    {odgRe angRe : Option Addr} {slgRe : Array (Option Value)} {ocgRe kVgRe dcgRe pmgRe cdgRe ctgRe : Value}
    {odgBt angBt : Option Addr} {slgBt : Array (Option Value)} {ocgBt kVgBt dcgBt pmgBt cdgBt ctgBt : Value}
    {odgKe angKe : Option Addr} {slgKe : Array (Option Value)} {ocgKe kVgKe dcgKe pmgKe cdgKe ctgKe : Value}
    {odgLa angLa : Option Addr} {slgLa : Array (Option Value)} {ocgLa kVgLa dcgLa pmgLa cdgLa ctgLa : Value}
    {odmCI anmCI : Option Addr} {slmCI : Array (Option Value)} {ocmCI kVmCI dcmCI pmmCI cdmCI ctmCI : Value}
    {odmCs anmCs : Option Addr} {slmCs : Array (Option Value)} {ocmCs kVmCs dcmCs pmmCs cdmCs ctmCs : Value}
    {odmCh anmCh : Option Addr} {slmCh : Array (Option Value)} {ocmCh kVmCh dcmCh pmmCh cdmCh ctmCh : Value}
    {odmNa anmNa : Option Addr} {slmNa : Array (Option Value)} {ocmNa kVmNa dcmNa pmmNa cdmNa ctmNa : Value}
    {odmCa anmCa : Option Addr} {slmCa : Array (Option Value)} {ocmCa kVmCa dcmCa pmmCa cdmCa ctmCa : Value}
    {odmLe anmLe : Option Addr} {slmLe : Array (Option Value)} {ocmLe kVmLe dcmLe pmmLe cdmLe ctmLe : Value}
    {odmWb anmWb : Option Addr} {slmWb : Array (Option Value)} {ocmWb kVmWb dcmWb pmmWb cdmWb ctmWb : Value}
    {odmWe anmWe : Option Addr} {slmWe : Array (Option Value)} {ocmWe kVmWe dcmWe pmmWe cdmWe ctmWe : Value}
    {odmWn anmWn : Option Addr} {slmWn : Array (Option Value)} {ocmWn kVmWn dcmWn pmmWn cdmWn ctmWn : Value}
    {odmWl anmWl : Option Addr} {slmWl : Array (Option Value)} {ocmWl kVmWl dcmWl pmmWl cdmWl ctmWl : Value}
    {odmRI anmRI : Option Addr} {slmRI : Array (Option Value)} {ocmRI kVmRI dcmRI pmmRI cdmRI ctmRI : Value}
    {odmSa anmSa : Option Addr} {slmSa : Array (Option Value)} {ocmSa kVmSa dcmSa pmmSa cdmSa ctmSa : Value}
    {odmRc anmRc : Option Addr} {slmRc : Array (Option Value)} {ocmRc kVmRc dcmRc pmmRc cdmRc ctmRc : Value}
    {odmRy anmRy : Option Addr} {slmRy : Array (Option Value)} {ocmRy kVmRy dcmRy pmmRy cdmRy ctmRy : Value}
    {odmRb anmRb : Option Addr} {slmRb : Array (Option Value)} {ocmRb kVmRb dcmRb pmmRb cdmRb ctmRb : Value}
    {odmRe anmRe : Option Addr} {slmRe : Array (Option Value)} {ocmRe kVmRe dcmRe pmmRe cdmRe ctmRe : Value}
    {odmRn anmRn : Option Addr} {slmRn : Array (Option Value)} {ocmRn kVmRn dcmRn pmmRn cdmRn ctmRn : Value}
    (hcC : PySem.W.nsIn K mainGlobals "Coder" = some (some (.ref cC)))
    (hcW : PySem.W.nsIn K mainGlobals "Writer" = some (some (.ref cW)))
    (hcR : PySem.W.nsIn K mainGlobals "Reader" = some (some (.ref cR)))
    (hagWh : PySem.W.nsIn K mainGlobals "is_whole" = some (some (.ref fgWh)))
    (hlgWh : K.lookup fgWh = some ⟨ocgWh, odgWh, .func (PySem.W.fnOf "is_whole" "is_whole" (defArgs sWhole) (defBody sWhole) (defScope sWhole) .none kVgWh dcgWh pmgWh angWh cdgWh ctgWh), slgWh⟩)
    (hkgWh : PySem.W.codeIn K cdgWh "is_whole" = true)
    (hpgWh : PySem.W.keepIn K (.ref fgWh) = true)
    (hagSg : PySem.W.nsIn K mainGlobals "signs_in" = some (some (.ref fgSg)))
    (hlgSg : K.lookup fgSg = some ⟨ocgSg, odgSg, .func (PySem.W.fnOf "signs_in" "signs_in" (defArgs sSigns) (defBody sSigns) (defScope sSigns) .none kVgSg dcgSg pmgSg angSg cdgSg ctgSg), slgSg⟩)
    (hkgSg : PySem.W.codeIn K cdgSg "signs_in" = true)
    (hpgSg : PySem.W.keepIn K (.ref fgSg) = true)
    (hagLo : PySem.W.nsIn K mainGlobals "lower_signs" = some (some (.ref fgLo)))
    (hlgLo : K.lookup fgLo = some ⟨ocgLo, odgLo, .func (PySem.W.fnOf "lower_signs" "lower_signs" (defArgs sLower) (defBody sLower) (defScope sLower) .none kVgLo dcgLo pmgLo angLo cdgLo ctgLo), slgLo⟩)
    (hkgLo : PySem.W.codeIn K cdgLo "lower_signs" = true)
    (hpgLo : PySem.W.keepIn K (.ref fgLo) = true)
    (hagLi : PySem.W.nsIn K mainGlobals "letters_in" = some (some (.ref fgLi)))
    (hlgLi : K.lookup fgLi = some ⟨ocgLi, odgLi, .func (PySem.W.fnOf "letters_in" "letters_in" (defArgs sLetIn) (defBody sLetIn) (defScope sLetIn) .none kVgLi dcgLi pmgLi angLi cdgLi ctgLi), slgLi⟩)
    (hkgLi : PySem.W.codeIn K cdgLi "letters_in" = true)
    (hpgLi : PySem.W.keepIn K (.ref fgLi) = true)
    (hagNe : PySem.W.nsIn K mainGlobals "need_sign" = some (some (.ref fgNe)))
    (hlgNe : K.lookup fgNe = some ⟨ocgNe, odgNe, .func (PySem.W.fnOf "need_sign" "need_sign" (defArgs sNeed) (defBody sNeed) (defScope sNeed) .none kVgNe dcgNe pmgNe angNe cdgNe ctgNe), slgNe⟩)
    (hkgNe : PySem.W.codeIn K cdgNe "need_sign" = true)
    (hpgNe : PySem.W.keepIn K (.ref fgNe) = true)
    (hagBe : PySem.W.nsIn K mainGlobals "_law_begin" = some (some (.ref fgBe)))
    (hlgBe : K.lookup fgBe = some ⟨ocgBe, odgBe, .func (PySem.W.fnOf "_law_begin" "_law_begin" (defArgs lBegin) (defBody lBegin) (defScope lBegin) .none kVgBe dcgBe pmgBe angBe cdgBe ctgBe), slgBe⟩)
    (hkgBe : PySem.W.codeIn K cdgBe "_law_begin" = true)
    (hpgBe : PySem.W.keepIn K (.ref fgBe) = true)
    (hagMo : PySem.W.nsIn K mainGlobals "_law_more" = some (some (.ref fgMo)))
    (hlgMo : K.lookup fgMo = some ⟨ocgMo, odgMo, .func (PySem.W.fnOf "_law_more" "_law_more" (defArgs lMore) (defBody lMore) (defScope lMore) .none kVgMo dcgMo pmgMo angMo cdgMo ctgMo), slgMo⟩)
    (hkgMo : PySem.W.codeIn K cdgMo "_law_more" = true)
    (hpgMo : PySem.W.keepIn K (.ref fgMo) = true)
    (hagNx : PySem.W.nsIn K mainGlobals "_law_next" = some (some (.ref fgNx)))
    (hlgNx : K.lookup fgNx = some ⟨ocgNx, odgNx, .func (PySem.W.fnOf "_law_next" "_law_next" (defArgs lNext) (defBody lNext) (defScope lNext) .none kVgNx dcgNx pmgNx angNx cdgNx ctgNx), slgNx⟩)
    (hkgNx : PySem.W.codeIn K cdgNx "_law_next" = true)
    (hpgNx : PySem.W.keepIn K (.ref fgNx) = true)
    (hagPi : PySem.W.nsIn K mainGlobals "_law_pick" = some (some (.ref fgPi)))
    (hlgPi : K.lookup fgPi = some ⟨ocgPi, odgPi, .func (PySem.W.fnOf "_law_pick" "_law_pick" (defArgs lPick) (defBody lPick) (defScope lPick) .none kVgPi dcgPi pmgPi angPi cdgPi ctgPi), slgPi⟩)
    (hkgPi : PySem.W.codeIn K cdgPi "_law_pick" = true)
    (hpgPi : PySem.W.keepIn K (.ref fgPi) = true)
    (hagCo : PySem.W.nsIn K mainGlobals "_law_coder" = some (some (.ref fgCo)))
    (hlgCo : K.lookup fgCo = some ⟨ocgCo, odgCo, .func (PySem.W.fnOf "_law_coder" "_law_coder" (defArgs lCoder) (defBody lCoder) (defScope lCoder) .none kVgCo dcgCo pmgCo angCo cdgCo ctgCo), slgCo⟩)
    (hkgCo : PySem.W.codeIn K cdgCo "_law_coder" = true)
    (hpgCo : PySem.W.keepIn K (.ref fgCo) = true)
    (hagSi : PySem.W.nsIn K mainGlobals "_law_sign" = some (some (.ref fgSi)))
    (hlgSi : K.lookup fgSi = some ⟨ocgSi, odgSi, .func (PySem.W.fnOf "_law_sign" "_law_sign" (defArgs lSign) (defBody lSign) (defScope lSign) .none kVgSi dcgSi pmgSi angSi cdgSi ctgSi), slgSi⟩)
    (hkgSi : PySem.W.codeIn K cdgSi "_law_sign" = true)
    (hpgSi : PySem.W.keepIn K (.ref fgSi) = true)
    (hagPo : PySem.W.nsIn K mainGlobals "_law_power" = some (some (.ref fgPo)))
    (hlgPo : K.lookup fgPo = some ⟨ocgPo, odgPo, .func (PySem.W.fnOf "_law_power" "_law_power" (defArgs lPower) (defBody lPower) (defScope lPower) .none kVgPo dcgPo pmgPo angPo cdgPo ctgPo), slgPo⟩)
    (hkgPo : PySem.W.codeIn K cdgPo "_law_power" = true)
    (hpgPo : PySem.W.keepIn K (.ref fgPo) = true)
    (hagNu : PySem.W.nsIn K mainGlobals "_law_number" = some (some (.ref fgNu)))
    (hlgNu : K.lookup fgNu = some ⟨ocgNu, odgNu, .func (PySem.W.fnOf "_law_number" "_law_number" (defArgs lNumber) (defBody lNumber) (defScope lNumber) .none kVgNu dcgNu pmgNu angNu cdgNu ctgNu), slgNu⟩)
    (hkgNu : PySem.W.codeIn K cdgNu "_law_number" = true)
    (hpgNu : PySem.W.keepIn K (.ref fgNu) = true)
    (hagAs : PySem.W.nsIn K mainGlobals "_law_asks" = some (some (.ref fgAs)))
    (hlgAs : K.lookup fgAs = some ⟨ocgAs, odgAs, .func (PySem.W.fnOf "_law_asks" "_law_asks" (defArgs lAsks) (defBody lAsks) (defScope lAsks) .none kVgAs dcgAs pmgAs angAs cdgAs ctgAs), slgAs⟩)
    (hkgAs : PySem.W.codeIn K cdgAs "_law_asks" = true)
    (hpgAs : PySem.W.keepIn K (.ref fgAs) = true)
    (hagWr : PySem.W.nsIn K mainGlobals "_law_written" = some (some (.ref fgWr)))
    (hlgWr : K.lookup fgWr = some ⟨ocgWr, odgWr, .func (PySem.W.fnOf "_law_written" "_law_written" (defArgs lWritten) (defBody lWritten) (defScope lWritten) .none kVgWr dcgWr pmgWr angWr cdgWr ctgWr), slgWr⟩)
    (hkgWr : PySem.W.codeIn K cdgWr "_law_written" = true)
    (hpgWr : PySem.W.keepIn K (.ref fgWr) = true)
    (hagRe : PySem.W.nsIn K mainGlobals "_law_read" = some (some (.ref fgRe)))
    (hlgRe : K.lookup fgRe = some ⟨ocgRe, odgRe, .func (PySem.W.fnOf "_law_read" "_law_read" (defArgs lRead) (defBody lRead) (defScope lRead) .none kVgRe dcgRe pmgRe angRe cdgRe ctgRe), slgRe⟩)
    (hkgRe : PySem.W.codeIn K cdgRe "_law_read" = true)
    (hpgRe : PySem.W.keepIn K (.ref fgRe) = true)
    (hagBt : PySem.W.nsIn K mainGlobals "_law_bent" = some (some (.ref fgBt)))
    (hlgBt : K.lookup fgBt = some ⟨ocgBt, odgBt, .func (PySem.W.fnOf "_law_bent" "_law_bent" (defArgs lBent) (defBody lBent) (defScope lBent) .none kVgBt dcgBt pmgBt angBt cdgBt ctgBt), slgBt⟩)
    (hkgBt : PySem.W.codeIn K cdgBt "_law_bent" = true)
    (hpgBt : PySem.W.keepIn K (.ref fgBt) = true)
    (hagKe : PySem.W.nsIn K mainGlobals "_law_as_kept" = some (some (.ref fgKe)))
    (hlgKe : K.lookup fgKe = some ⟨ocgKe, odgKe, .func (PySem.W.fnOf "_law_as_kept" "_law_as_kept" (defArgs lKept) (defBody lKept) (defScope lKept) .none kVgKe dcgKe pmgKe angKe cdgKe ctgKe), slgKe⟩)
    (hkgKe : PySem.W.codeIn K cdgKe "_law_as_kept" = true)
    (hpgKe : PySem.W.keepIn K (.ref fgKe) = true)
    (hagLa : PySem.W.nsIn K mainGlobals "law" = some (some (.ref fgLa)))
    (hlgLa : K.lookup fgLa = some ⟨ocgLa, odgLa, .func (PySem.W.fnOf "law" "law" (defArgs lLaw) (defBody lLaw) (defScope lLaw) .none kVgLa dcgLa pmgLa angLa cdgLa ctgLa), slgLa⟩)
    (hkgLa : PySem.W.codeIn K cdgLa "law" = true)
    (hpgLa : PySem.W.keepIn K (.ref fgLa) = true)
    (hamCIW : PySem.W.findIn K (.ref cW) "__init__" = some (some (.ref fmCI)))
    (hlmCI : K.lookup fmCI = some ⟨ocmCI, odmCI, .func (PySem.W.fnOf "__init__" "Coder.__init__" (defArgs sCInit) (defBody sCInit) (defScope sCInit) .none kVmCI dcmCI pmmCI anmCI cdmCI ctmCI), slmCI⟩)
    (hkmCI : PySem.W.codeIn K cdmCI "Coder.__init__" = true)
    (hpmCI : PySem.W.keepIn K (.ref fmCI) = true)
    (himCI : PySem.W.isFn K (.ref fmCI) = true)
    (hamCsW : PySem.W.findIn K (.ref cW) "chances" = some (some (.ref fmCs)))
    (hamCsR : PySem.W.findIn K (.ref cR) "chances" = some (some (.ref fmCs)))
    (hlmCs : K.lookup fmCs = some ⟨ocmCs, odmCs, .func (PySem.W.fnOf "chances" "Coder.chances" (defArgs sChances) (defBody sChances) (defScope sChances) .none kVmCs dcmCs pmmCs anmCs cdmCs ctmCs), slmCs⟩)
    (hkmCs : PySem.W.codeIn K cdmCs "Coder.chances" = true)
    (hpmCs : PySem.W.keepIn K (.ref fmCs) = true)
    (himCs : PySem.W.isFn K (.ref fmCs) = true)
    (hamChW : PySem.W.findIn K (.ref cW) "chance_of" = some (some (.ref fmCh)))
    (hamChR : PySem.W.findIn K (.ref cR) "chance_of" = some (some (.ref fmCh)))
    (hlmCh : K.lookup fmCh = some ⟨ocmCh, odmCh, .func (PySem.W.fnOf "chance_of" "Coder.chance_of" (defArgs sChance) (defBody sChance) (defScope sChance) .none kVmCh dcmCh pmmCh anmCh cdmCh ctmCh), slmCh⟩)
    (hkmCh : PySem.W.codeIn K cdmCh "Coder.chance_of" = true)
    (hpmCh : PySem.W.keepIn K (.ref fmCh) = true)
    (himCh : PySem.W.isFn K (.ref fmCh) = true)
    (hamNaW : PySem.W.findIn K (.ref cW) "narrowed" = some (some (.ref fmNa)))
    (hamNaR : PySem.W.findIn K (.ref cR) "narrowed" = some (some (.ref fmNa)))
    (hlmNa : K.lookup fmNa = some ⟨ocmNa, odmNa, .func (PySem.W.fnOf "narrowed" "Coder.narrowed" (defArgs sNarrow) (defBody sNarrow) (defScope sNarrow) .none kVmNa dcmNa pmmNa anmNa cdmNa ctmNa), slmNa⟩)
    (hkmNa : PySem.W.codeIn K cdmNa "Coder.narrowed" = true)
    (hpmNa : PySem.W.keepIn K (.ref fmNa) = true)
    (himNa : PySem.W.isFn K (.ref fmNa) = true)
    (hamCaW : PySem.W.findIn K (.ref cW) "came" = some (some (.ref fmCa)))
    (hlmCa : K.lookup fmCa = some ⟨ocmCa, odmCa, .func (PySem.W.fnOf "came" "Coder.came" (defArgs sCame0) (defBody sCame0) (defScope sCame0) .none kVmCa dcmCa pmmCa anmCa cdmCa ctmCa), slmCa⟩)
    (hkmCa : PySem.W.codeIn K cdmCa "Coder.came" = true)
    (hpmCa : PySem.W.keepIn K (.ref fmCa) = true)
    (himCa : PySem.W.isFn K (.ref fmCa) = true)
    (hamLeW : PySem.W.findIn K (.ref cW) "learn" = some (some (.ref fmLe)))
    (hamLeR : PySem.W.findIn K (.ref cR) "learn" = some (some (.ref fmLe)))
    (hlmLe : K.lookup fmLe = some ⟨ocmLe, odmLe, .func (PySem.W.fnOf "learn" "Coder.learn" (defArgs sLearn) (defBody sLearn) (defScope sLearn) .none kVmLe dcmLe pmmLe anmLe cdmLe ctmLe), slmLe⟩)
    (hkmLe : PySem.W.codeIn K cdmLe "Coder.learn" = true)
    (hpmLe : PySem.W.keepIn K (.ref fmLe) = true)
    (himLe : PySem.W.isFn K (.ref fmLe) = true)
    (hamWbW : PySem.W.findIn K (.ref cW) "bit" = some (some (.ref fmWb)))
    (hlmWb : K.lookup fmWb = some ⟨ocmWb, odmWb, .func (PySem.W.fnOf "bit" "Writer.bit" (defArgs sWBit) (defBody sWBit) (defScope sWBit) .none kVmWb dcmWb pmmWb anmWb cdmWb ctmWb), slmWb⟩)
    (hkmWb : PySem.W.codeIn K cdmWb "Writer.bit" = true)
    (hpmWb : PySem.W.keepIn K (.ref fmWb) = true)
    (himWb : PySem.W.isFn K (.ref fmWb) = true)
    (hamWeW : PySem.W.findIn K (.ref cW) "even" = some (some (.ref fmWe)))
    (hlmWe : K.lookup fmWe = some ⟨ocmWe, odmWe, .func (PySem.W.fnOf "even" "Writer.even" (defArgs sWEven) (defBody sWEven) (defScope sWEven) .none kVmWe dcmWe pmmWe anmWe cdmWe ctmWe), slmWe⟩)
    (hkmWe : PySem.W.codeIn K cdmWe "Writer.even" = true)
    (hpmWe : PySem.W.keepIn K (.ref fmWe) = true)
    (himWe : PySem.W.isFn K (.ref fmWe) = true)
    (hamWnW : PySem.W.findIn K (.ref cW) "number" = some (some (.ref fmWn)))
    (hlmWn : K.lookup fmWn = some ⟨ocmWn, odmWn, .func (PySem.W.fnOf "number" "Writer.number" (defArgs sWNum) (defBody sWNum) (defScope sWNum) .none kVmWn dcmWn pmmWn anmWn cdmWn ctmWn), slmWn⟩)
    (hkmWn : PySem.W.codeIn K cdmWn "Writer.number" = true)
    (hpmWn : PySem.W.keepIn K (.ref fmWn) = true)
    (himWn : PySem.W.isFn K (.ref fmWn) = true)
    (hamWlW : PySem.W.findIn K (.ref cW) "letters" = some (some (.ref fmWl)))
    (hlmWl : K.lookup fmWl = some ⟨ocmWl, odmWl, .func (PySem.W.fnOf "letters" "Writer.letters" (defArgs sWLet) (defBody sWLet) (defScope sWLet) .none kVmWl dcmWl pmmWl anmWl cdmWl ctmWl), slmWl⟩)
    (hkmWl : PySem.W.codeIn K cdmWl "Writer.letters" = true)
    (hpmWl : PySem.W.keepIn K (.ref fmWl) = true)
    (himWl : PySem.W.isFn K (.ref fmWl) = true)
    (hamRIR : PySem.W.findIn K (.ref cR) "__init__" = some (some (.ref fmRI)))
    (hlmRI : K.lookup fmRI = some ⟨ocmRI, odmRI, .func (PySem.W.fnOf "__init__" "Reader.__init__" (defArgs sRInit) (defBody sRInit) (defScope sRInit) .none kVmRI dcmRI pmmRI anmRI cdmRI ctmRI), slmRI⟩)
    (hkmRI : PySem.W.codeIn K cdmRI "Reader.__init__" = true)
    (hpmRI : PySem.W.keepIn K (.ref fmRI) = true)
    (himRI : PySem.W.isFn K (.ref fmRI) = true)
    (hamSaR : PySem.W.findIn K (.ref cR) "sign_at" = some (some (.ref fmSa)))
    (hlmSa : K.lookup fmSa = some ⟨ocmSa, odmSa, .func (PySem.W.fnOf "sign_at" "Reader.sign_at" (defArgs sSignAt) (defBody sSignAt) (defScope sSignAt) .none kVmSa dcmSa pmmSa anmSa cdmSa ctmSa), slmSa⟩)
    (hkmSa : PySem.W.codeIn K cdmSa "Reader.sign_at" = true)
    (hpmSa : PySem.W.keepIn K (.ref fmSa) = true)
    (himSa : PySem.W.isFn K (.ref fmSa) = true)
    (hamRcR : PySem.W.findIn K (.ref cR) "came" = some (some (.ref fmRc)))
    (hlmRc : K.lookup fmRc = some ⟨ocmRc, odmRc, .func (PySem.W.fnOf "came" "Reader.came" (defArgs sCameR) (defBody sCameR) (defScope sCameR) .none kVmRc dcmRc pmmRc anmRc cdmRc ctmRc), slmRc⟩)
    (hkmRc : PySem.W.codeIn K cdmRc "Reader.came" = true)
    (hpmRc : PySem.W.keepIn K (.ref fmRc) = true)
    (himRc : PySem.W.isFn K (.ref fmRc) = true)
    (hamRyR : PySem.W.findIn K (.ref cR) "read_by" = some (some (.ref fmRy)))
    (hlmRy : K.lookup fmRy = some ⟨ocmRy, odmRy, .func (PySem.W.fnOf "read_by" "Reader.read_by" (defArgs sReadBy) (defBody sReadBy) (defScope sReadBy) .none kVmRy dcmRy pmmRy anmRy cdmRy ctmRy), slmRy⟩)
    (hkmRy : PySem.W.codeIn K cdmRy "Reader.read_by" = true)
    (hpmRy : PySem.W.keepIn K (.ref fmRy) = true)
    (himRy : PySem.W.isFn K (.ref fmRy) = true)
    (hamRbR : PySem.W.findIn K (.ref cR) "bit" = some (some (.ref fmRb)))
    (hlmRb : K.lookup fmRb = some ⟨ocmRb, odmRb, .func (PySem.W.fnOf "bit" "Reader.bit" (defArgs sRBit) (defBody sRBit) (defScope sRBit) .none kVmRb dcmRb pmmRb anmRb cdmRb ctmRb), slmRb⟩)
    (hkmRb : PySem.W.codeIn K cdmRb "Reader.bit" = true)
    (hpmRb : PySem.W.keepIn K (.ref fmRb) = true)
    (himRb : PySem.W.isFn K (.ref fmRb) = true)
    (hamReR : PySem.W.findIn K (.ref cR) "even" = some (some (.ref fmRe)))
    (hlmRe : K.lookup fmRe = some ⟨ocmRe, odmRe, .func (PySem.W.fnOf "even" "Reader.even" (defArgs sREven) (defBody sREven) (defScope sREven) .none kVmRe dcmRe pmmRe anmRe cdmRe ctmRe), slmRe⟩)
    (hkmRe : PySem.W.codeIn K cdmRe "Reader.even" = true)
    (hpmRe : PySem.W.keepIn K (.ref fmRe) = true)
    (himRe : PySem.W.isFn K (.ref fmRe) = true)
    (hamRnR : PySem.W.findIn K (.ref cR) "number" = some (some (.ref fmRn)))
    (hlmRn : K.lookup fmRn = some ⟨ocmRn, odmRn, .func (PySem.W.fnOf "number" "Reader.number" (defArgs sRNum) (defBody sRNum) (defScope sRNum) .none kVmRn dcmRn pmmRn anmRn cdmRn ctmRn), slmRn⟩)
    (hkmRn : PySem.W.codeIn K cdmRn "Reader.number" = true)
    (hpmRn : PySem.W.keepIn K (.ref fmRn) = true)
    (himRn : PySem.W.isFn K (.ref fmRn) = true)
    (hpgW : PySem.W.plainGet K cW Str.empty = true)
    (hhdW : PySem.W.hasDictIn K cW = true)
    (hpoW : PySem.W.plainOver K cW = true)
    (hsaW : PySem.W.findIn K (.ref cW) "__setattr__" = some (some (.builtin "object.__setattr__")))
    (hmkW : PySem.W.makesIn K cW = true)
    (hkpW : PySem.W.keepIn K (.ref cW) = true)
    (hnLowW : PySem.W.findIn K (.ref cW) "low" = some none)
    (hnBrW : PySem.W.findIn K (.ref cW) "breadth" = some none)
    (hnRoomW : PySem.W.findIn K (.ref cW) "room" = some none)
    (hnSentW : PySem.W.findIn K (.ref cW) "sent" = some none)
    (hnLrnW : PySem.W.findIn K (.ref cW) "learned_ones" = some none)
    (hnSignsW : PySem.W.findIn K (.ref cW) "signs" = some none)
    (hnCodeW : PySem.W.findIn K (.ref cW) "code" = some none)
    (hpgR : PySem.W.plainGet K cR Str.empty = true)
    (hhdR : PySem.W.hasDictIn K cR = true)
    (hpoR : PySem.W.plainOver K cR = true)
    (hsaR : PySem.W.findIn K (.ref cR) "__setattr__" = some (some (.builtin "object.__setattr__")))
    (hmkR : PySem.W.makesIn K cR = true)
    (hkpR : PySem.W.keepIn K (.ref cR) = true)
    (hnLowR : PySem.W.findIn K (.ref cR) "low" = some none)
    (hnBrR : PySem.W.findIn K (.ref cR) "breadth" = some none)
    (hnRoomR : PySem.W.findIn K (.ref cR) "room" = some none)
    (hnSentR : PySem.W.findIn K (.ref cR) "sent" = some none)
    (hnLrnR : PySem.W.findIn K (.ref cR) "learned_ones" = some none)
    (hnSignsR : PySem.W.findIn K (.ref cR) "signs" = some none)
    (hnCodeR : PySem.W.findIn K (.ref cR) "code" = some none)
    (hrd : PySem.W.readsIn K cC (.type "type") = true)
    (hga : PySem.W.specialIn K (.ref cC) "__getattribute__" = some (some (.builtin "type.__getattribute__")))
    (hfc : PySem.W.findCls K (.ref cC) (.type "type") "__init__" = some (.val (.ref fmCI)))
    (hcEven : PySem.W.nsIn K mainGlobals "EVEN" = some (some (.int 1024 tcEven)))
    (hcWhole : PySem.W.nsIn K mainGlobals "WHOLE" = some (some (.int 2048 tcWhole)))
    (hcSlow : PySem.W.nsIn K mainGlobals "SLOW" = some (some (.int 32 tcSlow)))
    (hcAhead : PySem.W.nsIn K mainGlobals "AHEAD" = some (some (.int 4 tcAhead)))
    (hcMost : PySem.W.nsIn K mainGlobals "MOST_NUMBER" = some (some (.int 8190 tcMost)))
    (hzLen : PySem.W.nsIn K mainGlobals "len" = some none)
    (hzRange : PySem.W.nsIn K mainGlobals "range" = some none)
    (hzTuple : PySem.W.nsIn K mainGlobals "tuple" = some none)
    (hzList : PySem.W.nsIn K mainGlobals "list" = some none)
    (hzInt : PySem.W.nsIn K mainGlobals "int" = some none)
    (hzBool : PySem.W.nsIn K mainGlobals "bool" = some none)
    (hzIsi : PySem.W.nsIn K mainGlobals "isinstance" = some none)
    (hzMin : PySem.W.nsIn K mainGlobals "min" = some none)
    (hzMax : PySem.W.nsIn K mainGlobals "max" = some none)
    (hzAbs : PySem.W.nsIn K mainGlobals "abs" = some none)
    (hzStr : PySem.W.nsIn K mainGlobals "str" = some none)
    (hzSorted : PySem.W.nsIn K mainGlobals "sorted" = some none)
    (hzZip : PySem.W.nsIn K mainGlobals "zip" = some none)
    (hzEnum : PySem.W.nsIn K mainGlobals "enumerate" = some none)
    : ∃ fd : FuncData, (∀ (s : Shared) (v : Value), BindsTo s fd ⟨[v], []⟩ [("_law_script", v)]) ∧ ∀ base : Heap, K.In base → base.Ns mainGlobals mg → FnOk l.prog w K mg base CX0 9 fa fd ["_law_script"] (spLaw K) := by
  have e := hfa.symm.trans (PySem.W.mg_of X G hagLa)
  cases e
  have T : Txt K mg := ⟨⟨_, PySem.W.mg_of X G hcEven⟩, ⟨_, PySem.W.mg_of X G hcWhole⟩, ⟨_, PySem.W.mg_of X G hcSlow⟩, hX.1, hX.2, ⟨_, PySem.W.mg_of X G hcAhead⟩, ⟨_, PySem.W.mg_of X G hcMost⟩, PySem.W.mg_none_of X G hzLen, PySem.W.mg_none_of X G hzRange, PySem.W.mg_none_of X G hzTuple, PySem.W.mg_none_of X G hzList, PySem.W.mg_none_of X G hzInt, PySem.W.mg_none_of X G hzBool, PySem.W.mg_none_of X G hzIsi, PySem.W.mg_none_of X G hzMin, PySem.W.mg_none_of X G hzMax, PySem.W.mg_none_of X G hzAbs, PySem.W.mg_none_of X G hzStr, PySem.W.mg_none_of X G hzSorted, PySem.W.mg_none_of X G hzZip, PySem.W.mg_none_of X G hzEnum⟩
  have CW : CCls K cW := ⟨⟨hpgW, hhdW, hpoW, hsaW⟩, hnLowW, hnBrW, hnRoomW, hnSentW, hnLrnW, hnSignsW, hnCodeW⟩
  have CR : CCls K cR := ⟨⟨hpgR, hhdR, hpoR, hsaR⟩, hnLowR, hnBrR, hnRoomR, hnSentR, hnLrnR, hnSignsR, hnCodeR⟩
  have FgWh := fun_mk (st := sWhole) hlgWh hkgWh hpgWh
  have DgWh : GDef K mg "is_whole" sWhole ["thing", "least", "most"] fgWh _ := ⟨FgWh, FgWh.binds (ps := ["thing", "least", "most"]) fun _ _ _ _ _ _ us hl => match us, hl with | [_, _, _], _ => rfl, PySem.W.mg_of X G hagWh⟩
  have FgSg := fun_mk (st := sSigns) hlgSg hkgSg hpgSg
  have DgSg : GDef K mg "signs_in" sSigns ["number"] fgSg _ := ⟨FgSg, FgSg.binds (ps := ["number"]) fun _ _ _ _ _ _ us hl => match us, hl with | [_], _ => rfl, PySem.W.mg_of X G hagSg⟩
  have FgLo := fun_mk (st := sLower) hlgLo hkgLo hpgLo
  have DgLo : GDef K mg "lower_signs" sLower ["number", "many"] fgLo _ := ⟨FgLo, FgLo.binds (ps := ["number", "many"]) fun _ _ _ _ _ _ us hl => match us, hl with | [_, _], _ => rfl, PySem.W.mg_of X G hagLo⟩
  have FgLi := fun_mk (st := sLetIn) hlgLi hkgLi hpgLi
  have DgLi : GDef K mg "letters_in" sLetIn ["number", "many"] fgLi _ := ⟨FgLi, FgLi.binds (ps := ["number", "many"]) fun _ _ _ _ _ _ us hl => match us, hl with | [_, _], _ => rfl, PySem.W.mg_of X G hagLi⟩
  have FgNe := fun_mk (st := sNeed) hlgNe hkgNe hpgNe
  have DgNe : GDef K mg "need_sign" sNeed ["value"] fgNe _ := ⟨FgNe, FgNe.binds (ps := ["value"]) fun _ _ _ _ _ _ us hl => match us, hl with | [_], _ => rfl, PySem.W.mg_of X G hagNe⟩
  have FgBe := fun_mk (st := lBegin) hlgBe hkgBe hpgBe
  have DgBe : GDef K mg "_law_begin" lBegin ["_law_script"] fgBe _ := ⟨FgBe, FgBe.binds (ps := ["_law_script"]) fun _ _ _ _ _ _ us hl => match us, hl with | [_], _ => rfl, PySem.W.mg_of X G hagBe⟩
  have FgMo := fun_mk (st := lMore) hlgMo hkgMo hpgMo
  have DgMo : GDef K mg "_law_more" lMore ["_law_state"] fgMo _ := ⟨FgMo, FgMo.binds (ps := ["_law_state"]) fun _ _ _ _ _ _ us hl => match us, hl with | [_], _ => rfl, PySem.W.mg_of X G hagMo⟩
  have FgNx := fun_mk (st := lNext) hlgNx hkgNx hpgNx
  have DgNx : GDef K mg "_law_next" lNext ["_law_state", "_law_most"] fgNx _ := ⟨FgNx, FgNx.binds (ps := ["_law_state", "_law_most"]) fun _ _ _ _ _ _ us hl => match us, hl with | [_, _], _ => rfl, PySem.W.mg_of X G hagNx⟩
  have FgPi := fun_mk (st := lPick) hlgPi hkgPi hpgPi
  have DgPi : GDef K mg "_law_pick" lPick ["_law_state", "_law_some"] fgPi _ := ⟨FgPi, FgPi.binds (ps := ["_law_state", "_law_some"]) fun _ _ _ _ _ _ us hl => match us, hl with | [_, _], _ => rfl, PySem.W.mg_of X G hagPi⟩
  have FgCo := fun_mk (st := lCoder) hlgCo hkgCo hpgCo
  have DgCo : GDef K mg "_law_coder" lCoder ["_law_letters_here"] fgCo _ := ⟨FgCo, FgCo.binds (ps := ["_law_letters_here"]) fun _ _ _ _ _ _ us hl => match us, hl with | [_], _ => rfl, PySem.W.mg_of X G hagCo⟩
  have FgSi := fun_mk (st := lSign) hlgSi hkgSi hpgSi
  have DgSi : GDef K mg "_law_sign" lSign ["_law_coder_here", "_law_name", "_law_value"] fgSi _ := ⟨FgSi, FgSi.binds (ps := ["_law_coder_here", "_law_name", "_law_value"]) fun _ _ _ _ _ _ us hl => match us, hl with | [_, _, _], _ => rfl, PySem.W.mg_of X G hagSi⟩
  have FgPo := fun_mk (st := lPower) hlgPo hkgPo hpgPo
  have DgPo : GDef K mg "_law_power" lPower ["_law_number_here"] fgPo _ := ⟨FgPo, FgPo.binds (ps := ["_law_number_here"]) fun _ _ _ _ _ _ us hl => match us, hl with | [_], _ => rfl, PySem.W.mg_of X G hagPo⟩
  have FgNu := fun_mk (st := lNumber) hlgNu hkgNu hpgNu
  have DgNu : GDef K mg "_law_number" lNumber ["_law_coder_here", "_law_name", "_law_n", "_law_most"] fgNu _ := ⟨FgNu, FgNu.binds (ps := ["_law_coder_here", "_law_name", "_law_n", "_law_most"]) fun _ _ _ _ _ _ us hl => match us, hl with | [_, _, _, _], _ => rfl, PySem.W.mg_of X G hagNu⟩
  have FgAs := fun_mk (st := lAsks) hlgAs hkgAs hpgAs
  have DgAs : GDef K mg "_law_asks" lAsks ["_law_state", "_law_many"] fgAs _ := ⟨FgAs, FgAs.binds (ps := ["_law_state", "_law_many"]) fun _ _ _ _ _ _ us hl => match us, hl with | [_, _], _ => rfl, PySem.W.mg_of X G hagAs⟩
  have FgWr := fun_mk (st := lWritten) hlgWr hkgWr hpgWr
  have DgWr : GDef K mg "_law_written" lWritten ["_law_state", "_law_asks_here"] fgWr _ := ⟨FgWr, FgWr.binds (ps := ["_law_state", "_law_asks_here"]) fun _ _ _ _ _ _ us hl => match us, hl with | [_, _], _ => rfl, PySem.W.mg_of X G hagWr⟩
  have FgRe := fun_mk (st := lRead) hlgRe hkgRe hpgRe
  have DgRe : GDef K mg "_law_read" lRead ["_law_reader", "_law_name", "_law_most"] fgRe _ := ⟨FgRe, FgRe.binds (ps := ["_law_reader", "_law_name", "_law_most"]) fun _ _ _ _ _ _ us hl => match us, hl with | [_, _, _], _ => rfl, PySem.W.mg_of X G hagRe⟩
  have FgBt := fun_mk (st := lBent) hlgBt hkgBt hpgBt
  have DgBt : GDef K mg "_law_bent" lBent ["_law_state", "_law_some"] fgBt _ := ⟨FgBt, FgBt.binds (ps := ["_law_state", "_law_some"]) fun _ _ _ _ _ _ us hl => match us, hl with | [_, _], _ => rfl, PySem.W.mg_of X G hagBt⟩
  have FgKe := fun_mk (st := lKept) hlgKe hkgKe hpgKe
  have DgKe : GDef K mg "_law_as_kept" lKept ["_law_asks_here", "_law_some"] fgKe _ := ⟨FgKe, FgKe.binds (ps := ["_law_asks_here", "_law_some"]) fun _ _ _ _ _ _ us hl => match us, hl with | [_, _], _ => rfl, PySem.W.mg_of X G hagKe⟩
  have FgLa := fun_mk (st := lLaw) hlgLa hkgLa hpgLa
  have DgLa : GDef K mg "law" lLaw ["_law_script"] fa _ := ⟨FgLa, FgLa.binds (ps := ["_law_script"]) fun _ _ _ _ _ _ us hl => match us, hl with | [_], _ => rfl, PySem.W.mg_of X G hagLa⟩
  have FmCI := fun_mk (st := sCInit) hlmCI hkmCI hpmCI
  have DmCI : MDef K "__init__" "Coder.__init__" sCInit ["self"] fmCI _ := ⟨FmCI, FmCI.binds (ps := ["self"]) fun _ _ _ _ _ _ us hl => match us, hl with | [_], _ => rfl⟩
  have FmCs := fun_mk (st := sChances) hlmCs hkmCs hpmCs
  have DmCs : MDef K "chances" "Coder.chances" sChances ["self"] fmCs _ := ⟨FmCs, FmCs.binds (ps := ["self"]) fun _ _ _ _ _ _ us hl => match us, hl with | [_], _ => rfl⟩
  have FmCh := fun_mk (st := sChance) hlmCh hkmCh hpmCh
  have DmCh : MDef K "chance_of" "Coder.chance_of" sChance ["self", "name"] fmCh _ := ⟨FmCh, FmCh.binds (ps := ["self", "name"]) fun _ _ _ _ _ _ us hl => match us, hl with | [_, _], _ => rfl⟩
  have FmNa := fun_mk (st := sNarrow) hlmNa hkmNa hpmNa
  have DmNa : MDef K "narrowed" "Coder.narrowed" sNarrow ["self", "part", "value"] fmNa _ := ⟨FmNa, FmNa.binds (ps := ["self", "part", "value"]) fun _ _ _ _ _ _ us hl => match us, hl with | [_, _, _], _ => rfl⟩
  have FmCa := fun_mk (st := sCame0) hlmCa hkmCa hpmCa
  have DmCa : MDef K "came" "Coder.came" sCame0 ["self"] fmCa _ := ⟨FmCa, FmCa.binds (ps := ["self"]) fun _ _ _ _ _ _ us hl => match us, hl with | [_], _ => rfl⟩
  have FmLe := fun_mk (st := sLearn) hlmLe hkmLe hpmLe
  have DmLe : MDef K "learn" "Coder.learn" sLearn ["self", "name", "chance", "value"] fmLe _ := ⟨FmLe, FmLe.binds (ps := ["self", "name", "chance", "value"]) fun _ _ _ _ _ _ us hl => match us, hl with | [_, _, _, _], _ => rfl⟩
  have FmWb := fun_mk (st := sWBit) hlmWb hkmWb hpmWb
  have DmWb : MDef K "bit" "Writer.bit" sWBit ["self", "name", "value"] fmWb _ := ⟨FmWb, FmWb.binds (ps := ["self", "name", "value"]) fun _ _ _ _ _ _ us hl => match us, hl with | [_, _, _], _ => rfl⟩
  have FmWe := fun_mk (st := sWEven) hlmWe hkmWe hpmWe
  have DmWe : MDef K "even" "Writer.even" sWEven ["self", "value"] fmWe _ := ⟨FmWe, FmWe.binds (ps := ["self", "value"]) fun _ _ _ _ _ _ us hl => match us, hl with | [_, _], _ => rfl⟩
  have FmWn := fun_mk (st := sWNum) hlmWn hkmWn hpmWn
  have DmWn : MDef K "number" "Writer.number" sWNum ["self", "name", "n", "most"] fmWn _ := ⟨FmWn, FmWn.binds (ps := ["self", "name", "n", "most"]) fun _ _ _ _ _ _ us hl => match us, hl with | [_, _, _, _], _ => rfl⟩
  have FmWl := fun_mk (st := sWLet) hlmWl hkmWl hpmWl
  have DmWl : MDef K "letters" "Writer.letters" sWLet ["self"] fmWl _ := ⟨FmWl, FmWl.binds (ps := ["self"]) fun _ _ _ _ _ _ us hl => match us, hl with | [_], _ => rfl⟩
  have FmRI := fun_mk (st := sRInit) hlmRI hkmRI hpmRI
  have DmRI : MDef K "__init__" "Reader.__init__" sRInit ["self", "letters"] fmRI _ := ⟨FmRI, FmRI.binds (ps := ["self", "letters"]) fun _ _ _ _ _ _ us hl => match us, hl with | [_, _], _ => rfl⟩
  have FmSa := fun_mk (st := sSignAt) hlmSa hkmSa hpmSa
  have DmSa : MDef K "sign_at" "Reader.sign_at" sSignAt ["self", "at"] fmSa _ := ⟨FmSa, FmSa.binds (ps := ["self", "at"]) fun _ _ _ _ _ _ us hl => match us, hl with | [_, _], _ => rfl⟩
  have FmRc := fun_mk (st := sCameR) hlmRc hkmRc hpmRc
  have DmRc : MDef K "came" "Reader.came" sCameR ["self"] fmRc _ := ⟨FmRc, FmRc.binds (ps := ["self"]) fun _ _ _ _ _ _ us hl => match us, hl with | [_], _ => rfl⟩
  have FmRy := fun_mk (st := sReadBy) hlmRy hkmRy hpmRy
  have DmRy : MDef K "read_by" "Reader.read_by" sReadBy ["self", "chance"] fmRy _ := ⟨FmRy, FmRy.binds (ps := ["self", "chance"]) fun _ _ _ _ _ _ us hl => match us, hl with | [_, _], _ => rfl⟩
  have FmRb := fun_mk (st := sRBit) hlmRb hkmRb hpmRb
  have DmRb : MDef K "bit" "Reader.bit" sRBit ["self", "name"] fmRb _ := ⟨FmRb, FmRb.binds (ps := ["self", "name"]) fun _ _ _ _ _ _ us hl => match us, hl with | [_, _], _ => rfl⟩
  have FmRe := fun_mk (st := sREven) hlmRe hkmRe hpmRe
  have DmRe : MDef K "even" "Reader.even" sREven ["self"] fmRe _ := ⟨FmRe, FmRe.binds (ps := ["self"]) fun _ _ _ _ _ _ us hl => match us, hl with | [_], _ => rfl⟩
  have FmRn := fun_mk (st := sRNum) hlmRn hkmRn hpmRn
  have DmRn : MDef K "number" "Reader.number" sRNum ["self", "name", "most"] fmRn _ := ⟨FmRn, FmRn.binds (ps := ["self", "name", "most"]) fun _ _ _ _ _ _ us hl => match us, hl with | [_, _, _], _ => rfl⟩
  exact ⟨PySem.W.fnOf "law" "law" (defArgs lLaw) (defBody lLaw) (defScope lLaw) .none kVgLa dcgLa pmgLa angLa cdgLa ctgLa, fun s v => .of_eq rfl, fun base _ _ => all_ok { T := T, W := CW, R := CR, hC := PySem.W.mg_of X G hcC, hW := PySem.W.mg_of X G hcW, hR := PySem.W.mg_of X G hcR, rC := ⟨hrd, hga⟩, agWh := fgWh, dgWh := _, gWh := DgWh, agSg := fgSg, dgSg := _, gSg := DgSg, agLo := fgLo, dgLo := _, gLo := DgLo, agLi := fgLi, dgLi := _, gLi := DgLi, agNe := fgNe, dgNe := _, gNe := DgNe, agBe := fgBe, dgBe := _, gBe := DgBe, agMo := fgMo, dgMo := _, gMo := DgMo, agNx := fgNx, dgNx := _, gNx := DgNx, agPi := fgPi, dgPi := _, gPi := DgPi, agCo := fgCo, dgCo := _, gCo := DgCo, agSi := fgSi, dgSi := _, gSi := DgSi, agPo := fgPo, dgPo := _, gPo := DgPo, agNu := fgNu, dgNu := _, gNu := DgNu, agAs := fgAs, dgAs := _, gAs := DgAs, agWr := fgWr, dgWr := _, gWr := DgWr, agRe := fgRe, dgRe := _, gRe := DgRe, agBt := fgBt, dgBt := _, gBt := DgBt, agKe := fgKe, dgKe := _, gKe := DgKe, agLa := fa, dgLa := _, gLa := DgLa, amCI := fmCI, dmCI := _, mCI := DmCI, mCIW := ⟨hamCIW, himCI, hpmCI⟩, amCs := fmCs, dmCs := _, mCs := DmCs, mCsW := ⟨hamCsW, himCs, hpmCs⟩, mCsR := ⟨hamCsR, himCs, hpmCs⟩, amCh := fmCh, dmCh := _, mCh := DmCh, mChW := ⟨hamChW, himCh, hpmCh⟩, mChR := ⟨hamChR, himCh, hpmCh⟩, amNa := fmNa, dmNa := _, mNa := DmNa, mNaW := ⟨hamNaW, himNa, hpmNa⟩, mNaR := ⟨hamNaR, himNa, hpmNa⟩, amCa := fmCa, dmCa := _, mCa := DmCa, mCaW := ⟨hamCaW, himCa, hpmCa⟩, amLe := fmLe, dmLe := _, mLe := DmLe, mLeW := ⟨hamLeW, himLe, hpmLe⟩, mLeR := ⟨hamLeR, himLe, hpmLe⟩, amWb := fmWb, dmWb := _, mWb := DmWb, mWbW := ⟨hamWbW, himWb, hpmWb⟩, amWe := fmWe, dmWe := _, mWe := DmWe, mWeW := ⟨hamWeW, himWe, hpmWe⟩, amWn := fmWn, dmWn := _, mWn := DmWn, mWnW := ⟨hamWnW, himWn, hpmWn⟩, amWl := fmWl, dmWl := _, mWl := DmWl, mWlW := ⟨hamWlW, himWl, hpmWl⟩, amRI := fmRI, dmRI := _, mRI := DmRI, mRIR := ⟨hamRIR, himRI, hpmRI⟩, amSa := fmSa, dmSa := _, mSa := DmSa, mSaR := ⟨hamSaR, himSa, hpmSa⟩, amRc := fmRc, dmRc := _, mRc := DmRc, mRcR := ⟨hamRcR, himRc, hpmRc⟩, amRy := fmRy, dmRy := _, mRy := DmRy, mRyR := ⟨hamRyR, himRy, hpmRy⟩, amRb := fmRb, dmRb := _, mRb := DmRb, mRbR := ⟨hamRbR, himRb, hpmRb⟩, amRe := fmRe, dmRe := _, mRe := DmRe, mReR := ⟨hamReR, himRe, hpmRe⟩, amRn := fmRn, dmRn := _, mRn := DmRn, mRnR := ⟨hamRnR, himRn, hpmRn⟩, cf := ⟨hfc, hpmCI⟩, kW := ⟨hmkW, hamCIW, himCI, hkpW⟩, kR := ⟨hmkR, hamRIR, himRI, hkpR⟩ }⟩
/-- the two numbers that no view tells, off the rows that the head found -/
theorem consts_of {p : Program} {mg : Str → Option Value} {h : Heap} (x : PySem.W.XL p [("LEAST_BREADTH", PySem.W.WData.int 16777216), ("FIRST_BREADTH", PySem.W.WData.int 4294967296)] mg h) :
    (∃ t, mg "LEAST_BREADTH" = some (.int 16777216 t)) ∧ ∃ t, mg "FIRST_BREADTH" = some (.int 4294967296 t) := by
  obtain ⟨v, e1, r1⟩ := x.2.val _ (List.mem_cons_self ..)
  obtain ⟨u, e2, r2⟩ := x.2.val _ (List.mem_cons_of_mem _ (List.mem_cons_self ..))
  cases r1
  cases r2
  exact ⟨⟨_, e1⟩, ⟨_, e2⟩⟩
/-- a law's end that is told what the loose names hold -/
theorem walk {l : PySem.W.OpenLaw} {q : Program} {loose : List Str} {XP : (Str → Option Value) → Heap → Prop} {YP : World → Heap → Prop} {d : DefRec} {K : Params → PySem.W.Frag} (hn : l.most = some 63) (hdf : d.params.defaults = [])
    (hX : ∀ (mg : Str → Option Value) (h : Heap), XP mg h → (∃ t, mg "LEAST_BREADTH" = some (.int 16777216 t)) ∧ ∃ t, mg "FIRST_BREADTH" = some (.int 4294967296 t)) (hY : ∀ (w : World) (h : Heap), YP w h → (K w.params).In h)
    (F : ∀ (w : World) (mg : Str → Option Value) (fa : Addr) (h : Heap), (K w.params).In h → h.Ns mainGlobals mg → ((∃ t, mg "LEAST_BREADTH" = some (.int 16777216 t)) ∧ ∃ t, mg "FIRST_BREADTH" = some (.int 4294967296 t)) → mg d.name = some (.ref fa) →
      ∃ fd : FuncData, (∀ (s : Shared) (u : Value), BindsTo s fd ⟨[u], []⟩ [("_law_script", u)]) ∧ ∀ base : Heap, (K w.params).In base → base.Ns mainGlobals mg → FnOk l.prog w (K w.params) mg base CX0 9 fa fd ["_law_script"] (spLaw (K w.params))) :
    PySem.W.WalkO q loose XP YP l.row.toRowW d [] (fun f vs => PySem.call f vs) := by
  refine Att.attach_call hn hdf fun w s₀ s₁ mg mb fa o pm cd doc a vs ns G Y ho hd hcd hmg hobj hints hlen hg => ?_
  have KX := hY w _ Y
  obtain ⟨fd, hb, hF⟩ := F w mg fa _ KX G.T.g (hX mg _ G.X) hmg
  exact law_call KX G.T.g G.T.b G.T.builtins G.T.nolimit hg hobj hints (Nat.le_trans hlen (by decide : 63 ≤ sizeLine)) ⟨rfl, by decide, by decide⟩ hF hb (fun H _ hS => ⟨a, ns, rfl, hS, hlen, fun _ => rfl⟩) fun _ _ _ z => z
end K11
open PySem PySem.W PyProof.Rows in
set_option maxRecDepth 100000 in
set_option maxHeartbeats 0 in
theorem PySem.Challenge.cw_sameshown_k11_whole_signs_read_back_holds : PySem.Challenge.rw_sameshown_k11_whole_signs_read_back.Holds := by
  w_on; o_law; k_head; (case hw => w_witness2)
  k_fill
  refine K11.walk (l := PySem.Challenge.rw_sameshown_k11_whole_signs_read_back) rfl rfl (fun mg h x => K11.consts_of x) (fun w h Y => PySem.W.kIn_of Y) ?F
  case F =>
    intro w mg fa h KX G hX hmg
    refine' K11.all_mk KX G hmg hX ?cC ?cW ?cR ?agWh ?lgWh ?kgWh ?pgWh ?agSg ?lgSg ?kgSg ?pgSg ?agLo ?lgLo ?kgLo ?pgLo ?agLi ?lgLi ?kgLi ?pgLi ?agNe ?lgNe ?kgNe ?pgNe ?agBe ?lgBe ?kgBe ?pgBe ?agMo ?lgMo ?kgMo ?pgMo ?agNx ?lgNx ?kgNx ?pgNx ?agPi ?lgPi ?kgPi ?pgPi ?agCo ?lgCo ?kgCo ?pgCo ?agSi ?lgSi ?kgSi ?pgSi ?agPo ?lgPo ?kgPo ?pgPo ?agNu ?lgNu ?kgNu ?pgNu ?agAs ?lgAs ?kgAs ?pgAs ?agWr ?lgWr ?kgWr ?pgWr ?agRe ?lgRe ?kgRe ?pgRe ?agBt ?lgBt ?kgBt ?pgBt ?agKe ?lgKe ?kgKe ?pgKe ?agLa ?lgLa ?kgLa ?pgLa ?amCIW ?lmCI ?kmCI ?pmCI ?imCI ?amCsW ?amCsR ?lmCs ?kmCs ?pmCs ?imCs ?amChW ?amChR ?lmCh ?kmCh ?pmCh ?imCh ?amNaW ?amNaR ?lmNa ?kmNa ?pmNa ?imNa ?amCaW ?lmCa ?kmCa ?pmCa ?imCa ?amLeW ?amLeR ?lmLe ?kmLe ?pmLe ?imLe ?amWbW ?lmWb ?kmWb ?pmWb ?imWb ?amWeW ?lmWe ?kmWe ?pmWe ?imWe ?amWnW ?lmWn ?kmWn ?pmWn ?imWn ?amWlW ?lmWl ?kmWl ?pmWl ?imWl ?amRIR ?lmRI ?kmRI ?pmRI ?imRI ?amSaR ?lmSa ?kmSa ?pmSa ?imSa ?amRcR ?lmRc ?kmRc ?pmRc ?imRc ?amRyR ?lmRy ?kmRy ?pmRy ?imRy ?amRbR ?lmRb ?kmRb ?pmRb ?imRb ?amReR ?lmRe ?kmRe ?pmRe ?imRe ?amRnR ?lmRn ?kmRn ?pmRn ?imRn ?pgW ?hdW ?poW ?saW ?mkW ?kpW ?nLowW ?nBrW ?nRoomW ?nSentW ?nLrnW ?nSignsW ?nCodeW ?pgR ?hdR ?poR ?saR ?mkR ?kpR ?nLowR ?nBrR ?nRoomR ?nSentR ?nLrnR ?nSignsR ?nCodeR ?rd ?ga ?fc ?cEven ?cWhole ?cSlow ?cAhead ?cMost ?zLen ?zRange ?zTuple ?zList ?zInt ?zBool ?zIsi ?zMin ?zMax ?zAbs ?zStr ?zSorted ?zZip ?zEnum
    (case cC => k_is)
    (case cW => k_is)
    (case cR => k_is)
    (case agWh => k_is)
    (case lgWh => k_is)
    (case kgWh => k_is)
    (case pgWh => k_is)
    (case agSg => k_is)
    (case lgSg => k_is)
    (case kgSg => k_is)
    (case pgSg => k_is)
    (case agLo => k_is)
    (case lgLo => k_is)
    (case kgLo => k_is)
    (case pgLo => k_is)
    (case agLi => k_is)
    (case lgLi => k_is)
    (case kgLi => k_is)
    (case pgLi => k_is)
    (case agNe => k_is)
    (case lgNe => k_is)
    (case kgNe => k_is)
    (case pgNe => k_is)
    (case agBe => k_is)
    (case lgBe => k_is)
    (case kgBe => k_is)
    (case pgBe => k_is)
    (case agMo => k_is)
    (case lgMo => k_is)
    (case kgMo => k_is)
    (case pgMo => k_is)
    (case agNx => k_is)
    (case lgNx => k_is)
    (case kgNx => k_is)
    (case pgNx => k_is)
    (case agPi => k_is)
    (case lgPi => k_is)
    (case kgPi => k_is)
    (case pgPi => k_is)
    (case agCo => k_is)
    (case lgCo => k_is)
    (case kgCo => k_is)
    (case pgCo => k_is)
    (case agSi => k_is)
    (case lgSi => k_is)
    (case kgSi => k_is)
    (case pgSi => k_is)
    (case agPo => k_is)
    (case lgPo => k_is)
    (case kgPo => k_is)
    (case pgPo => k_is)
    (case agNu => k_is)
    (case lgNu => k_is)
    (case kgNu => k_is)
    (case pgNu => k_is)
    (case agAs => k_is)
    (case lgAs => k_is)
    (case kgAs => k_is)
    (case pgAs => k_is)
    (case agWr => k_is)
    (case lgWr => k_is)
    (case kgWr => k_is)
    (case pgWr => k_is)
    (case agRe => k_is)
    (case lgRe => k_is)
    (case kgRe => k_is)
    (case pgRe => k_is)
    (case agBt => k_is)
    (case lgBt => k_is)
    (case kgBt => k_is)
    (case pgBt => k_is)
    (case agKe => k_is)
    (case lgKe => k_is)
    (case kgKe => k_is)
    (case pgKe => k_is)
    (case agLa => k_is)
    (case lgLa => k_is)
    (case kgLa => k_is)
    (case pgLa => k_is)
    (case amCIW => k_is)
    (case lmCI => k_is)
    (case kmCI => k_is)
    (case pmCI => k_is)
    (case imCI => k_is)
    (case amCsW => k_is)
    (case amCsR => k_is)
    (case lmCs => k_is)
    (case kmCs => k_is)
    (case pmCs => k_is)
    (case imCs => k_is)
    (case amChW => k_is)
    (case amChR => k_is)
    (case lmCh => k_is)
    (case kmCh => k_is)
    (case pmCh => k_is)
    (case imCh => k_is)
    (case amNaW => k_is)
    (case amNaR => k_is)
    (case lmNa => k_is)
    (case kmNa => k_is)
    (case pmNa => k_is)
    (case imNa => k_is)
    (case amCaW => k_is)
    (case lmCa => k_is)
    (case kmCa => k_is)
    (case pmCa => k_is)
    (case imCa => k_is)
    (case amLeW => k_is)
    (case amLeR => k_is)
    (case lmLe => k_is)
    (case kmLe => k_is)
    (case pmLe => k_is)
    (case imLe => k_is)
    (case amWbW => k_is)
    (case lmWb => k_is)
    (case kmWb => k_is)
    (case pmWb => k_is)
    (case imWb => k_is)
    (case amWeW => k_is)
    (case lmWe => k_is)
    (case kmWe => k_is)
    (case pmWe => k_is)
    (case imWe => k_is)
    (case amWnW => k_is)
    (case lmWn => k_is)
    (case kmWn => k_is)
    (case pmWn => k_is)
    (case imWn => k_is)
    (case amWlW => k_is)
    (case lmWl => k_is)
    (case kmWl => k_is)
    (case pmWl => k_is)
    (case imWl => k_is)
    (case amRIR => k_is)
    (case lmRI => k_is)
    (case kmRI => k_is)
    (case pmRI => k_is)
    (case imRI => k_is)
    (case amSaR => k_is)
    (case lmSa => k_is)
    (case kmSa => k_is)
    (case pmSa => k_is)
    (case imSa => k_is)
    (case amRcR => k_is)
    (case lmRc => k_is)
    (case kmRc => k_is)
    (case pmRc => k_is)
    (case imRc => k_is)
    (case amRyR => k_is)
    (case lmRy => k_is)
    (case kmRy => k_is)
    (case pmRy => k_is)
    (case imRy => k_is)
    (case amRbR => k_is)
    (case lmRb => k_is)
    (case kmRb => k_is)
    (case pmRb => k_is)
    (case imRb => k_is)
    (case amReR => k_is)
    (case lmRe => k_is)
    (case kmRe => k_is)
    (case pmRe => k_is)
    (case imRe => k_is)
    (case amRnR => k_is)
    (case lmRn => k_is)
    (case kmRn => k_is)
    (case pmRn => k_is)
    (case imRn => k_is)
    (case pgW => k_is)
    (case hdW => k_is)
    (case poW => k_is)
    (case saW => k_is)
    (case mkW => k_is)
    (case kpW => k_is)
    (case nLowW => k_is)
    (case nBrW => k_is)
    (case nRoomW => k_is)
    (case nSentW => k_is)
    (case nLrnW => k_is)
    (case nSignsW => k_is)
    (case nCodeW => k_is)
    (case pgR => k_is)
    (case hdR => k_is)
    (case poR => k_is)
    (case saR => k_is)
    (case mkR => k_is)
    (case kpR => k_is)
    (case nLowR => k_is)
    (case nBrR => k_is)
    (case nRoomR => k_is)
    (case nSentR => k_is)
    (case nLrnR => k_is)
    (case nSignsR => k_is)
    (case nCodeR => k_is)
    (case rd => k_is)
    (case ga => k_is)
    (case fc => k_is)
    (case cEven => k_is)
    (case cWhole => k_is)
    (case cSlow => k_is)
    (case cAhead => k_is)
    (case cMost => k_is)
    (case zLen => k_is)
    (case zRange => k_is)
    (case zTuple => k_is)
    (case zList => k_is)
    (case zInt => k_is)
    (case zBool => k_is)
    (case zIsi => k_is)
    (case zMin => k_is)
    (case zMax => k_is)
    (case zAbs => k_is)
    (case zStr => k_is)
    (case zSorted => k_is)
    (case zZip => k_is)
    (case zEnum => k_is)
