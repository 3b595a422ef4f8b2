import PyProof.Rows.All
import Wide.All
import OpenK.AllK
import Wide.FinOn
import KE.KStateDown
import Lean
import HandS.ForMost
import HandS.WordsExc
import HandS.Exc
import HandS.Defaults
import HandS.WideBits
import HandS.IsInst
import HandS.Codes
import HandS.Head0
import HandS.Head1
import HandS.Head2
import HandS.HeadEnd
import HandS.HeadHook1
import HandS.HeadHook2
import PySem.Challenge.RW_thaumatrope_k16_whole_symbols_read_back
import HandS.Iter
set_option Elab.async false
set_option linter.all false
set_option maxRecDepth 100000
set_option maxHeartbeats 0
/-! The plain law: an arithmetic coder's decisions read back. No program in sight. -/
namespace Thm

/-- a decision: its context (none: an even one), its bit -/
abbrev Dc := Option Int × Int

structure ES where
  ch : List Int
  low : Int
  span : Int
  sh : Nat

structure DS where
  ch : List Int
  src : List Int
  place : Nat
  span : Int
  value : Int

def pr (ch : List Int) : Option Int → Int
  | none => 2048
  | some c => ch.getD c.toNat 0

def adp (p d : Int) : Int := if d = 0 then p + (4096 - p) / 32 else p - p / 32

def upc (ch : List Int) (c : Option Int) (d : Int) : List Int := match c with
  | none => ch
  | some i => ch.set i.toNat (adp (ch.getD i.toNat 0) d)

def eRaw (s : ES) (p d : Int) : ES :=
  if d = 0 then { s with span := s.span / 4096 * p }
  else { s with low := s.low + s.span / 4096 * p, span := s.span - s.span / 4096 * p }

def eNorm (s : ES) : ES :=
  if s.span < 16777216 then { s with low := s.low * 256, span := s.span * 256, sh := s.sh + 1 } else s

def eStep (s : ES) (c : Dc) : ES :=
  { eNorm (eRaw s (pr s.ch c.1) c.2) with ch := upc s.ch c.1 c.2 }

def oct (src : List Int) (i : Nat) : Int := src.getD i 0

def dBit (s : DS) (p : Int) : Int := if s.value < s.span / 4096 * p then 0 else 1

def dRaw (s : DS) (p : Int) : DS :=
  if s.value < s.span / 4096 * p then { s with span := s.span / 4096 * p }
  else { s with value := s.value - s.span / 4096 * p, span := s.span - s.span / 4096 * p }

def dNorm (s : DS) : DS :=
  if s.span < 16777216 then { s with value := 256 * s.value + oct s.src s.place, place := s.place + 1, span := s.span * 256 } else s

def dStep (s : DS) (c : Option Int) : DS :=
  { dNorm (dRaw s (pr s.ch c)) with ch := upc s.ch c (dBit s (pr s.ch c)) }

structure COk (ch : List Int) : Prop where
  len : ch.length = 256
  pb : ∀ p ∈ ch, 31 ≤ p ∧ p ≤ 4065

structure EOk (s : ES) : Prop where
  c : COk s.ch
  s1 : 16777216 ≤ s.span
  s2 : s.span < 4294967296
  l0 : 0 ≤ s.low

structure DOk (s : DS) : Prop where
  c : COk s.ch
  s1 : 16777216 ≤ s.span
  s2 : s.span < 4294967296

structure DcOk (c : Dc) : Prop where
  bit : c.2 = 0 ∨ c.2 = 1
  ctx : ∀ i, c.1 = some i → 0 ≤ i ∧ i < 256

theorem COk.get {ch : List Int} (h : COk ch) {i : Int} (h0 : 0 ≤ i) (h1 : i < 256) : ch.getD i.toNat 0 ∈ ch := by
  have hl : i.toNat < ch.length := by rw [h.len]; omega
  rw [List.getD_eq_getElem?_getD, List.getElem?_eq_getElem hl]
  exact List.getElem_mem hl

theorem COk.pr {ch : List Int} (h : COk ch) {c : Option Int} (hc : ∀ i, c = some i → 0 ≤ i ∧ i < 256) : 31 ≤ pr ch c ∧ pr ch c ≤ 4065 := by
  cases c with
  | none => exact ⟨by show (31 : Int) ≤ 2048; decide, by show (2048 : Int) ≤ 4065; decide⟩
  | some i =>
    obtain ⟨h0, h1⟩ := hc i rfl
    exact h.pb _ (h.get h0 h1)

theorem adp_ok {p d : Int} (h : 31 ≤ p ∧ p ≤ 4065) : 31 ≤ adp p d ∧ adp p d ≤ 4065 := by
  unfold adp
  split <;> omega

theorem COk.upc {ch : List Int} (h : COk ch) {c : Option Int} (d : Int) (hc : ∀ i, c = some i → 0 ≤ i ∧ i < 256) : COk (upc ch c d) := by
  cases c with
  | none => exact h
  | some i =>
    obtain ⟨h0, h1⟩ := hc i rfl
    refine ⟨?_, fun p hp => ?_⟩
    · show (ch.set _ _).length = 256
      rw [List.length_set]
      exact h.len
    · have hp2 : p ∈ ch.set i.toNat (adp (ch.getD i.toNat 0) d) := hp
      rcases List.mem_or_eq_of_mem_set hp2 with q | q
      · exact h.pb _ q
      · rw [q]
        exact adp_ok (h.pb _ (h.get h0 h1))

/-- the part of a span -/
theorem part_ok {span p : Int} (h1 : 16777216 ≤ span) (h2 : span < 4294967296) (hp : 31 ≤ p ∧ p ≤ 4065) :
    65536 ≤ span / 4096 * p ∧ 65536 ≤ span - span / 4096 * p ∧ span / 4096 * p < 4294967296 ∧ span - span / 4096 * p < 4294967296 := by
  obtain ⟨q, hq⟩ : ∃ q, q = span / 4096 := ⟨_, rfl⟩
  have a1 : 4096 ≤ q := by omega
  have a2 : q * 4096 ≤ span := by omega
  have a3 : q < 1048576 := by omega
  rw [← hq]
  have b1 : q * 31 ≤ q * p := Int.mul_le_mul_of_nonneg_left hp.1 (by omega)
  have b2 : q * p ≤ q * 4065 := Int.mul_le_mul_of_nonneg_left hp.2 (by omega)
  generalize q * p = r at *
  omega

theorem eRaw_ch {s : ES} {p d : Int} : (eRaw s p d).ch = s.ch := by unfold eRaw; split <;> rfl
theorem eRaw_sh {s : ES} {p d : Int} : (eRaw s p d).sh = s.sh := by unfold eRaw; split <;> rfl

/-- behind the raw step: the new interval lies within the old one -/
theorem eRaw_ok {s : ES} {p d : Int} (h : EOk s) (hp : 31 ≤ p ∧ p ≤ 4065) :
    65536 ≤ (eRaw s p d).span ∧ (eRaw s p d).span < 4294967296 ∧ s.low ≤ (eRaw s p d).low ∧ (eRaw s p d).low + (eRaw s p d).span ≤ s.low + s.span := by
  obtain ⟨a, b, c, e⟩ := part_ok h.s1 h.s2 hp
  unfold eRaw
  split
  · exact ⟨a, c, Int.le_refl _, by show s.low + s.span / 4096 * p ≤ _; omega⟩
  · exact ⟨b, e, by show _ ≤ s.low + s.span / 4096 * p; omega, by show s.low + s.span / 4096 * p + (s.span - s.span / 4096 * p) ≤ _; omega⟩

theorem eNorm_span {s : ES} (h1 : 65536 ≤ s.span) (h2 : s.span < 4294967296) : 16777216 ≤ (eNorm s).span ∧ (eNorm s).span < 4294967296 := by
  unfold eNorm
  split
  · exact ⟨by show 16777216 ≤ s.span * 256; omega, by show s.span * 256 < 4294967296; omega⟩
  · exact ⟨by omega, h2⟩

theorem eNorm_sh {s : ES} : (eNorm s).sh ≤ s.sh + 1 := by
  unfold eNorm
  split
  · exact Nat.le_refl _
  · exact Nat.le_succ _

theorem eStep_ok {s : ES} {c : Dc} (h : EOk s) (hc : DcOk c) : EOk (eStep s c) := by
  obtain ⟨a1, a2, a3, a4⟩ := eRaw_ok (d := c.2) h (h.c.pr hc.ctx)
  obtain ⟨b1, b2⟩ := eNorm_span a1 a2
  refine ⟨h.c.upc c.2 hc.ctx, b1, b2, ?_⟩
  show 0 ≤ (eNorm (eRaw s (pr s.ch c.1) c.2)).low
  have h0 := h.l0
  unfold eNorm
  split
  · show 0 ≤ (eRaw s (pr s.ch c.1) c.2).low * 256
    omega
  · omega

theorem eStep_sh {s : ES} {c : Dc} : (eStep s c).sh ≤ s.sh + 1 := by
  have := @eNorm_sh (eRaw s (pr s.ch c.1) c.2)
  rw [eRaw_sh] at this
  exact this

def eFold (s : ES) (D : List Dc) : ES := D.foldl eStep s
theorem eFold_nil {s : ES} : eFold s [] = s := rfl
theorem eFold_cons {s : ES} {c : Dc} {D : List Dc} : eFold s (c :: D) = eFold (eStep s c) D := rfl
theorem eFold_append {s : ES} {D D' : List Dc} : eFold s (D ++ D') = eFold (eFold s D) D' := List.foldl_append

theorem eFold_ok : ∀ {D : List Dc} {s : ES}, EOk s → (∀ c ∈ D, DcOk c) → EOk (eFold s D)
  | [], _, h, _ => h
  | _ :: D, _, h, hD => eFold_ok (D := D) (eStep_ok h (hD _ (List.mem_cons_self ..))) fun c hc => hD c (List.mem_cons_of_mem _ hc)

theorem eFold_sh : ∀ {D : List Dc} {s : ES}, (eFold s D).sh ≤ s.sh + D.length
  | [], _ => Nat.le_refl _
  | c :: D, s => by
    have h1 := @eFold_sh D (eStep s c)
    have h2 := @eStep_sh s c
    rw [eFold_cons, List.length_cons]
    omega

theorem B_pos (m : Nat) : (0 : Int) < 256 ^ m := Int.pow_pos (by decide)

/-- the later interval lies within the earlier one, as many octets further -/
structure Within (s f : ES) (m : Nat) : Prop where
  sh : f.sh = s.sh + m
  lo : s.low * 256 ^ m ≤ f.low
  hi : f.low + f.span ≤ (s.low + s.span) * 256 ^ m

theorem Within.trans {a b c : ES} {m n : Nat} (h : Within a b m) (k : Within b c n) : Within a c (m + n) := by
  refine ⟨by rw [k.sh, h.sh]; omega, ?_, ?_⟩
  · rw [Int.pow_add, ← Int.mul_assoc]
    exact Int.le_trans (Int.mul_le_mul_of_nonneg_right h.lo (Int.le_of_lt (B_pos n))) k.lo
  · rw [Int.pow_add, ← Int.mul_assoc]
    exact Int.le_trans k.hi (Int.mul_le_mul_of_nonneg_right h.hi (Int.le_of_lt (B_pos n)))

theorem eRaw_within {s : ES} {p d : Int} (h : EOk s) (hp : 31 ≤ p ∧ p ≤ 4065) : Within s (eRaw s p d) 0 := by
  obtain ⟨a1, a2, a3, a4⟩ := eRaw_ok (d := d) h hp
  exact ⟨eRaw_sh, by rw [Int.pow_zero, Int.mul_one]; exact a3, by rw [Int.pow_zero, Int.mul_one]; exact a4⟩

theorem eNorm_within (s : ES) : ∃ m, Within s (eNorm s) m ∧ (m = 0 ∧ ¬ s.span < 16777216 ∨ m = 1 ∧ s.span < 16777216) := by
  unfold eNorm
  split
  · rename_i h
    refine ⟨1, ⟨rfl, ?_, ?_⟩, .inr ⟨rfl, h⟩⟩
    · show s.low * 256 ^ 1 ≤ s.low * 256
      exact Int.le_refl _
    · show s.low * 256 + s.span * 256 ≤ (s.low + s.span) * 256 ^ 1
      rw [← Int.add_mul]
      exact Int.le_refl _
  · rename_i h
    exact ⟨0, ⟨rfl, by rw [Int.pow_zero, Int.mul_one]; exact Int.le_refl _, by rw [Int.pow_zero, Int.mul_one]; exact Int.le_refl _⟩, .inl ⟨rfl, h⟩⟩

theorem within_ch {s f g : ES} {m : Nat} (h : Within s f m) (a : g.low = f.low) (b : g.span = f.span) (c : g.sh = f.sh) : Within s g m :=
  ⟨c.trans h.sh, by rw [a]; exact h.lo, by rw [a, b]; exact h.hi⟩

theorem eStep_within {s : ES} {c : Dc} (h : EOk s) (hc : DcOk c) : ∃ m, Within s (eStep s c) m := by
  obtain ⟨m, w, _⟩ := eNorm_within (eRaw s (pr s.ch c.1) c.2)
  exact ⟨0 + m, within_ch ((eRaw_within h (h.c.pr hc.ctx)).trans w) rfl rfl rfl⟩

theorem Within.refl (s : ES) : Within s s 0 := ⟨rfl, by rw [Int.pow_zero, Int.mul_one]; exact Int.le_refl _, by rw [Int.pow_zero, Int.mul_one]; exact Int.le_refl _⟩

theorem eFold_within : ∀ {D : List Dc} {s : ES}, EOk s → (∀ c ∈ D, DcOk c) → ∃ m, Within s (eFold s D) m
  | [], s, _, _ => ⟨0, Within.refl s⟩
  | c :: D, s, h, hD => by
    have hc := hD c (List.mem_cons_self ..)
    obtain ⟨m, a⟩ := eStep_within h hc
    obtain ⟨n, b⟩ := eFold_within (D := D) (eStep_ok h hc) fun c hc => hD c (List.mem_cons_of_mem _ hc)
    exact ⟨m + n, a.trans b⟩

/-- what the decoder sees of the code L lies in the interval -/
theorem seen {s : ES} {L : Int} {m : Nat} (lo : s.low * 256 ^ m ≤ L) (hi : L < (s.low + s.span) * 256 ^ m) : s.low ≤ L / 256 ^ m ∧ L / 256 ^ m < s.low + s.span :=
  ⟨(Int.le_ediv_iff_mul_le (B_pos m)).mpr lo, (Int.ediv_lt_iff_lt_mul (B_pos m)).mpr hi⟩

theorem Within.seen {s f : ES} {m : Nat} (w : Within s f m) (hf : 0 < f.span) : s.low ≤ f.low / 256 ^ m ∧ f.low / 256 ^ m < s.low + s.span :=
  Thm.seen w.lo (Int.lt_of_lt_of_le (by omega) w.hi)

/-- decoder and encoder at one place of the code: f is the end -/
structure Sync (f s : ES) (t : DS) (m : Nat) : Prop where
  ch : t.ch = s.ch
  span : t.span = s.span
  place : t.place = s.sh + 4
  sh : f.sh = s.sh + m
  value : t.value = f.low / 256 ^ m - s.low

/-- src is the code of f -/
def IsCode (f : ES) (src : List Int) : Prop := ∀ i, i < f.sh + 4 → oct src i = f.low / 256 ^ (f.sh + 3 - i) % 256

def Pend : DS → List Dc → Prop
  | _, [] => True
  | t, (c, d) :: r => dBit t (pr t.ch c) = d ∧ Pend (dStep t c) r

theorem div256 (L : Int) (m : Nat) : 256 * (L / 256 ^ (m + 1)) + L / 256 ^ m % 256 = L / 256 ^ m := by
  have e : L / 256 ^ (m + 1) = L / 256 ^ m / 256 := by
    rw [Int.pow_succ]
    exact (Int.ediv_ediv_of_nonneg (Int.le_of_lt (B_pos m))).symm
  rw [e]
  omega

theorem sync_step {f s : ES} {t : DS} {m : Nat} {c : Dc} {D : List Dc} (Y : Sync f s t m) (h : EOk s) (hc : DcOk c) (hD : ∀ c ∈ D, DcOk c) (hf : f = eFold (eStep s c) D) (code : IsCode f t.src) :
    dBit t (pr t.ch c.1) = c.2 ∧ (∃ m', Sync f (eStep s c) (dStep t c.1) m') ∧ (dStep t c.1).src = t.src := by
  have hp := h.c.pr hc.ctx
  have h1 := eStep_ok h hc
  obtain ⟨m2, w2⟩ := eFold_within h1 hD
  rw [← hf] at w2
  have hfs : 0 < f.span := by
    have := (eFold_ok h1 hD).s1
    rw [← hf] at this
    omega
  -- the raw step
  obtain ⟨k, wk, hk⟩ := eNorm_within (eRaw s (pr s.ch c.1) c.2)
  have wk2 : Within (eRaw s (pr s.ch c.1) c.2) (eStep s c) k := within_ch wk rfl rfl rfl
  have w3 := wk2.trans w2
  have em : k + m2 = m := by
    have a1 := w3.sh
    have a2 := Y.sh
    rw [eRaw_sh] at a1
    omega
  rw [em] at w3
  obtain ⟨v1, v2⟩ := w3.seen hfs
  have ev := Y.value
  obtain ⟨p1, p2, _, _⟩ := part_ok h.s1 h.s2 hp
  have ebit : dBit t (pr t.ch c.1) = c.2 := by
    unfold dBit
    rw [Y.ch, Y.span]
    unfold eRaw at v1 v2
    rcases hc.bit with e | e
    · rw [e] at v1 v2 ⊢
      rw [if_pos rfl] at v1 v2
      have v1' : s.low ≤ f.low / 256 ^ m := v1
      have v2' : f.low / 256 ^ m < s.low + s.span / 4096 * pr s.ch c.1 := v2
      rw [if_pos (by omega)]
    · rw [e] at v1 v2 ⊢
      rw [if_neg (by decide)] at v1 v2
      have v1' : s.low + s.span / 4096 * pr s.ch c.1 ≤ f.low / 256 ^ m := v1
      rw [if_neg (by omega)]
  -- the decoder's raw state goes with the encoder's
  have eraw : (dRaw t (pr t.ch c.1)).span = (eRaw s (pr s.ch c.1) c.2).span ∧ (dRaw t (pr t.ch c.1)).value = f.low / 256 ^ m - (eRaw s (pr s.ch c.1) c.2).low ∧ (dRaw t (pr t.ch c.1)).place = s.sh + 4 ∧ (dRaw t (pr t.ch c.1)).src = t.src := by
    have eb := ebit
    unfold dBit at eb
    unfold dRaw eRaw
    rw [Y.ch, Y.span] at eb ⊢
    by_cases q : t.value < s.span / 4096 * pr s.ch c.1
    · rw [if_pos q] at eb ⊢
      rw [if_pos eb.symm]
      exact ⟨rfl, Y.value, Y.place, rfl⟩
    · rw [if_neg q] at eb ⊢
      have : ¬ c.2 = 0 := by omega
      rw [if_neg this]
      refine ⟨rfl, ?_, Y.place, rfl⟩
      show t.value - s.span / 4096 * pr s.ch c.1 = f.low / 256 ^ m - (s.low + s.span / 4096 * pr s.ch c.1)
      omega
  obtain ⟨r1, r2, r3, r4⟩ := eraw
  refine ⟨ebit, ?_, ?_⟩
  · refine ⟨m2, ?_⟩
    have ech : (dStep t c.1).ch = (eStep s c).ch := by
      show upc t.ch c.1 (dBit t (pr t.ch c.1)) = upc s.ch c.1 c.2
      rw [ebit, Y.ch]
    rcases hk with ⟨k0, q⟩ | ⟨k1, q⟩
    · have ed : dNorm (dRaw t (pr t.ch c.1)) = dRaw t (pr t.ch c.1) := by
        unfold dNorm
        rw [if_neg (by rw [r1]; exact q)]
      have ee : eNorm (eRaw s (pr s.ch c.1) c.2) = eRaw s (pr s.ch c.1) c.2 := by
        unfold eNorm
        rw [if_neg q]
      refine ⟨ech, ?_, ?_, w2.sh, ?_⟩
      · show (dNorm (dRaw t (pr t.ch c.1))).span = (eNorm (eRaw s (pr s.ch c.1) c.2)).span
        rw [ed, ee, r1]
      · show (dNorm (dRaw t (pr t.ch c.1))).place = (eNorm (eRaw s (pr s.ch c.1) c.2)).sh + 4
        rw [ed, ee, r3, eRaw_sh]
      · show (dNorm (dRaw t (pr t.ch c.1))).value = f.low / 256 ^ m2 - (eNorm (eRaw s (pr s.ch c.1) c.2)).low
        rw [ed, ee, r2]
        have : m2 = m := by omega
        rw [this]
    · have ed : dNorm (dRaw t (pr t.ch c.1)) = { dRaw t (pr t.ch c.1) with value := 256 * (dRaw t (pr t.ch c.1)).value + oct (dRaw t (pr t.ch c.1)).src (dRaw t (pr t.ch c.1)).place, place := (dRaw t (pr t.ch c.1)).place + 1, span := (dRaw t (pr t.ch c.1)).span * 256 } := by
        unfold dNorm
        rw [if_pos (by rw [r1]; exact q)]
      have ee : eNorm (eRaw s (pr s.ch c.1) c.2) = { eRaw s (pr s.ch c.1) c.2 with low := (eRaw s (pr s.ch c.1) c.2).low * 256, span := (eRaw s (pr s.ch c.1) c.2).span * 256, sh := (eRaw s (pr s.ch c.1) c.2).sh + 1 } := by
        unfold eNorm
        rw [if_pos q]
      refine ⟨ech, ?_, ?_, w2.sh, ?_⟩
      · show (dNorm (dRaw t (pr t.ch c.1))).span = (eNorm (eRaw s (pr s.ch c.1) c.2)).span
        rw [ed, ee]
        show (dRaw t (pr t.ch c.1)).span * 256 = (eRaw s (pr s.ch c.1) c.2).span * 256
        rw [r1]
      · show (dNorm (dRaw t (pr t.ch c.1))).place = (eNorm (eRaw s (pr s.ch c.1) c.2)).sh + 4
        rw [ed, ee]
        show (dRaw t (pr t.ch c.1)).place + 1 = (eRaw s (pr s.ch c.1) c.2).sh + 1 + 4
        rw [r3, eRaw_sh]
      · show (dNorm (dRaw t (pr t.ch c.1))).value = f.low / 256 ^ m2 - (eNorm (eRaw s (pr s.ch c.1) c.2)).low
        rw [ed, ee]
        show 256 * (dRaw t (pr t.ch c.1)).value + oct (dRaw t (pr t.ch c.1)).src (dRaw t (pr t.ch c.1)).place = f.low / 256 ^ m2 - (eRaw s (pr s.ch c.1) c.2).low * 256
        rw [r2, r3, r4]
        have esh := Y.sh
        rw [code (s.sh + 4) (by omega)]
        have e1 : f.sh + 3 - (s.sh + 4) = m2 := by omega
        have e2 : m = m2 + 1 := by omega
        rw [e1, e2]
        have := div256 f.low m2
        omega
  · show (dNorm (dRaw t (pr t.ch c.1))).src = t.src
    unfold dNorm
    split
    · exact r4
    · exact r4

theorem pend_of_sync : ∀ {D : List Dc} {f s : ES} {t : DS} {m : Nat}, Sync f s t m → EOk s → (∀ c ∈ D, DcOk c) → f = eFold s D → IsCode f t.src → Pend t D
  | [], _, _, _, _, _, _, _, _, _ => trivial
  | (c, d) :: D, f, s, t, m, Y, h, hD, hf, code => by
    have hc := hD (c, d) (List.mem_cons_self ..)
    have hD2 : ∀ c ∈ D, DcOk c := fun c hc => hD c (List.mem_cons_of_mem _ hc)
    obtain ⟨e, ⟨m', Y'⟩, es⟩ := sync_step Y h hc hD2 hf code
    exact ⟨e, pend_of_sync Y' (eStep_ok h hc) hD2 hf (by rw [es]; exact code)⟩

/-! ### the octets -/
/-- the octets of n places, the lowest first -/
def octL : Int → Nat → List Int
  | _, 0 => []
  | L, n + 1 => L % 256 :: octL (L / 256) n
theorem octL_length : ∀ (n : Nat) (L : Int), (octL L n).length = n
  | 0, _ => rfl
  | n + 1, L => by rw [octL, List.length_cons, octL_length n]
theorem octL_get : ∀ (n : Nat) (L : Int) (j : Nat), j < n → (octL L n).getD j 0 = L / 256 ^ j % 256
  | 0, _, _, h => absurd h (Nat.not_lt_zero _)
  | n + 1, L, 0, _ => by
    rw [octL, Int.pow_zero, Int.ediv_one, List.getD_cons_zero]
  | n + 1, L, j + 1, h => by
    rw [octL, List.getD_cons_succ, octL_get n _ j (by omega)]
    have e : L / 256 ^ (j + 1) = L / 256 / 256 ^ j := by
      rw [Int.pow_succ, Int.mul_comm]
      exact (Int.ediv_ediv_of_nonneg (by decide)).symm
    rw [e]
/-- a list without the zeros at its beginning -/
def lopz : List Int → List Int
  | [] => []
  | x :: r => if x = 0 then lopz r else x :: r
/-- the code's octets -/
def octs (s : ES) : List Int := (lopz (octL s.low (s.sh + 4))).reverse

theorem lopz_get : ∀ (l : List Int) (i : Nat), (lopz l).reverse.getD i 0 = l.reverse.getD i 0
  | [], _ => rfl
  | x :: r, i => by
    unfold lopz
    by_cases h : x = 0
    · rw [if_pos h, lopz_get r i, h, List.reverse_cons, List.getD_eq_getElem?_getD, List.getD_eq_getElem?_getD, List.getElem?_append]
      split
      · rfl
      · rename_i q
        rw [List.getElem?_eq_none (by omega)]
        cases e : i - r.reverse.length with
        | zero => rfl
        | succ n => rfl
    · rw [if_neg h]

theorem octs_code (s : ES) : IsCode s (octs s) := by
  intro i hi
  unfold oct octs
  rw [lopz_get, List.getD_eq_getElem?_getD, List.getElem?_reverse (by rw [octL_length]; exact hi), octL_length, ← List.getD_eq_getElem?_getD, octL_get _ _ _ (by omega)]
  have e : s.sh + 4 - 1 - i = s.sh + 3 - i := by omega
  rw [e]

def ch0 : List Int := List.replicate 256 2048
def e0 : ES := ⟨ch0, 0, 4294967295, 0⟩
theorem ch0_ok : COk ch0 := by
  refine ⟨List.length_replicate, fun p hp => ?_⟩
  have := List.eq_of_mem_replicate hp
  omega
theorem e0_ok : EOk e0 := ⟨ch0_ok, by decide, by decide, by decide⟩
/-- the first four octets -/
def v4 (src : List Int) : Int := 256 * (256 * (256 * (256 * 0 + oct src 0) + oct src 1) + oct src 2) + oct src 3
def d0 (src : List Int) : DS := ⟨ch0, src, 4, 4294967295, if v4 src < 4294967294 then v4 src else 4294967294⟩
theorem d0_ok (src : List Int) : DOk (d0 src) := ⟨ch0_ok, by show (16777216 : Int) ≤ 4294967295; decide, by show (4294967295 : Int) < 4294967296; decide⟩

theorem start_sync {D : List Dc} (hD : ∀ c ∈ D, DcOk c) : ∃ m, Sync (eFold e0 D) e0 (d0 (octs (eFold e0 D))) m := by
  obtain ⟨m, w⟩ := eFold_within e0_ok hD
  have hf := (eFold_ok e0_ok hD).s1
  obtain ⟨v1, v2⟩ := w.seen (by omega)
  refine ⟨m, rfl, rfl, rfl, w.sh, ?_⟩
  have code := octs_code (eFold e0 D)
  generalize eFold e0 D = f at *
  have esh : f.sh = m := by
    have := w.sh
    rw [this]
    exact Nat.zero_add m
  have c0 := code 0 (by omega)
  have c1 := code 1 (by omega)
  have c2 := code 2 (by omega)
  have c3 := code 3 (by omega)
  have q (k : Nat) : f.low / 256 ^ (m + k) = f.low / 256 ^ m / 256 ^ k := by
    rw [Int.pow_add]
    exact (Int.ediv_ediv_of_nonneg (Int.le_of_lt (B_pos m))).symm
  rw [show f.sh + 3 - 0 = m + 3 by omega, q 3] at c0
  rw [show f.sh + 3 - 1 = m + 2 by omega, q 2] at c1
  rw [show f.sh + 3 - 2 = m + 1 by omega, q 1] at c2
  rw [show f.sh + 3 - 3 = m by omega] at c3
  have v1' : 0 ≤ f.low / 256 ^ m := v1
  have v2' : f.low / 256 ^ m < 4294967295 := by
    have : f.low / 256 ^ m < 0 + 4294967295 := v2
    omega
  generalize f.low / 256 ^ m = V at *
  have p3 : (256 : Int) ^ 3 = 16777216 := by decide
  have p2 : (256 : Int) ^ 2 = 65536 := by decide
  have p1 : (256 : Int) ^ 1 = 256 := by decide
  rw [p3] at c0
  rw [p2] at c1
  rw [p1] at c2
  show (if v4 (octs f) < 4294967294 then v4 (octs f) else 4294967294) = V - 0
  have e : v4 (octs f) = V := by
    unfold v4
    rw [c0, c1, c2, c3]
    omega
  rw [e]
  split <;> omega

/-- THE LAW: what was coded is read -/
theorem reads {D : List Dc} (hD : ∀ c ∈ D, DcOk c) : Pend (d0 (octs (eFold e0 D))) D := by
  obtain ⟨m, Y⟩ := start_sync hD
  exact pend_of_sync Y e0_ok hD rfl (octs_code _)

/-! ### the decoder's bounds -/
theorem dRaw_ok {t : DS} {p : Int} (h : DOk t) (hp : 31 ≤ p ∧ p ≤ 4065) : 65536 ≤ (dRaw t p).span ∧ (dRaw t p).span < 4294967296 := by
  obtain ⟨a, b, c, e⟩ := part_ok h.s1 h.s2 hp
  unfold dRaw
  split
  · exact ⟨a, c⟩
  · exact ⟨b, e⟩
theorem dNorm_span {s : DS} (h1 : 65536 ≤ s.span) (h2 : s.span < 4294967296) : 16777216 ≤ (dNorm s).span ∧ (dNorm s).span < 4294967296 := by
  unfold dNorm
  split
  · exact ⟨by show 16777216 ≤ s.span * 256; omega, by show s.span * 256 < 4294967296; omega⟩
  · exact ⟨by omega, h2⟩
theorem dStep_ok {t : DS} {c : Option Int} (h : DOk t) (hc : ∀ i, c = some i → 0 ≤ i ∧ i < 256) : DOk (dStep t c) := by
  obtain ⟨a1, a2⟩ := dRaw_ok h (h.c.pr hc)
  obtain ⟨b1, b2⟩ := dNorm_span a1 a2
  exact ⟨h.c.upc _ hc, b1, b2⟩

end Thm
/-! The plain law, second part: the decisions of each symbol. -/
namespace Thm


/-! ### a choice -/
/-- the digits of v below the place k, node: what stands before -/
def chD (b v : Int) : Int → Nat → List Dc
  | _, 0 => []
  | node, k + 1 => (some (b + node - 1), v / 2 ^ k % 2) :: chD b v (2 * node + v / 2 ^ k % 2) k

theorem P_pos (m : Nat) : (0 : Int) < 2 ^ m := Int.pow_pos (by decide)
theorem bit01 (x : Int) : x % 2 = 0 ∨ x % 2 = 1 := by omega
theorem half_pow (v : Int) (k : Nat) : v / 2 ^ k = 2 * (v / 2 ^ (k + 1)) + v / 2 ^ k % 2 := by
  have e : v / 2 ^ (k + 1) = v / 2 ^ k / 2 := by
    rw [Int.pow_succ]
    exact (Int.ediv_ediv_of_nonneg (Int.le_of_lt (P_pos k))).symm
  rw [e]
  omega

/-- the node ahead of the place k of w places: a one, then the digits above -/
theorem node_next {v node : Int} {w i : Nat} (hi : i < w) (h : node = 2 ^ i + v / 2 ^ (w - i)) :
    2 * node + v / 2 ^ (w - 1 - i) % 2 = 2 ^ (i + 1) + v / 2 ^ (w - (i + 1)) := by
  obtain ⟨k, rfl⟩ : ∃ k, w = i + 1 + k := ⟨w - (i + 1), by omega⟩
  have e1 : i + 1 + k - i = k + 1 := by omega
  have e2 : i + 1 + k - 1 - i = k := by omega
  have e3 : i + 1 + k - (i + 1) = k := by omega
  rw [e1] at h
  rw [e2, e3, h, half_pow v k, Int.pow_succ]
  omega

theorem node_lt {v node : Int} {w i : Nat} (hi : i ≤ w) (h0 : 0 ≤ v) (hv : v < 2 ^ w) (h : node = 2 ^ i + v / 2 ^ (w - i)) : 1 ≤ node ∧ node < 2 ^ i + 2 ^ i := by
  have a : v / 2 ^ (w - i) < 2 ^ i := by
    refine (Int.ediv_lt_iff_lt_mul (P_pos _)).mpr ?_
    rw [← Int.pow_add, show i + (w - i) = w by omega]
    exact hv
  have b : 0 ≤ v / 2 ^ (w - i) := Int.ediv_nonneg h0 (Int.le_of_lt (P_pos _))
  have c := P_pos i
  omega

theorem pow_le_pow2 {i w : Nat} (h : i ≤ w) : (2 : Int) ^ i ≤ 2 ^ w := by
  obtain ⟨k, rfl⟩ : ∃ k, w = i + k := ⟨w - i, by omega⟩
  rw [Int.pow_add]
  have a := P_pos k
  have b := P_pos i
  have := Int.mul_le_mul_of_nonneg_left (show (1 : Int) ≤ 2 ^ k by omega) (Int.le_of_lt b)
  omega

/-- the context of a digit lies within -/
theorem node_cx {b v node : Int} {w i : Nat} (hi : i < w) (h0 : 0 ≤ v) (hv : v < 2 ^ w) (hb : 0 ≤ b ∧ b + 2 ^ w ≤ 257) (h : node = 2 ^ i + v / 2 ^ (w - i)) : 0 ≤ b + node - 1 ∧ b + node - 1 < 256 := by
  obtain ⟨n1, n2⟩ := node_lt (Nat.le_of_lt hi) h0 hv h
  have p := pow_le_pow2 (i := i + 1) (w := w) hi
  rw [Int.pow_succ] at p
  omega

theorem chD_ok {b v : Int} {w : Nat} (h0 : 0 ≤ v) (hv : v < 2 ^ w) (hb : 0 ≤ b ∧ b + 2 ^ w ≤ 257) : ∀ (k i : Nat) (node : Int), i + k = w → node = 2 ^ i + v / 2 ^ (w - i) → ∀ c ∈ chD b v node k, DcOk c
  | 0, _, _, _, _ => by
    intro c hc
    cases hc
  | k + 1, i, node, hik, hn => by
    intro c hc
    unfold chD at hc
    rcases List.mem_cons.mp hc with e | hc
    · rw [e]
      refine ⟨bit01 _, fun j hj => ?_⟩
      have hj2 : b + node - 1 = j := Option.some.inj hj
      rw [← hj2]
      exact node_cx (by omega) h0 hv hb hn
    · refine chD_ok h0 hv hb k (i + 1) _ (by omega) ?_ c hc
      have := node_next (v := v) (node := node) (w := w) (i := i) (by omega) hn
      rw [show w - 1 - i = k by omega] at this
      exact this

theorem chD_length (b v : Int) : ∀ (k : Nat) (node : Int), (chD b v node k).length = k
  | 0, _ => rfl
  | k + 1, node => by rw [chD, List.length_cons, chD_length b v k]

/-- all digits read: the value with a one ahead -/
theorem node_end {v node : Int} {w : Nat} (h : node = 2 ^ w + v / 2 ^ (w - w)) : node - 2 ^ w = v := by
  rw [Nat.sub_self, Int.pow_zero, Int.ediv_one] at h
  omega

/-! ### a unary value -/
def mn (a b : Int) : Int := if b < a then b else a
theorem mn_le (a b : Int) : mn a b ≤ b ∧ mn a b ≤ a := by unfold mn; split <;> omega
theorem mn_ge {a b c : Int} (h : c ≤ a) (k : c ≤ b) : c ≤ mn a b := by unfold mn; split <;> omega

/-- n ones from the place i on -/
def ones (b : Int) : Int → Nat → List Dc
  | _, 0 => []
  | i, n + 1 => (some (b + mn i 7), 1) :: ones b (i + 1) n
def unT (b v m : Int) : List Dc := if v < m then [(some (b + mn v 7), 0)] else []
def unD (b v m : Int) : List Dc := ones b 0 v.toNat ++ unT b v m

theorem ones_length (b : Int) : ∀ (n : Nat) (i : Int), (ones b i n).length = n
  | 0, _ => rfl
  | n + 1, i => by rw [ones, List.length_cons, ones_length b n]
theorem unD_length {b v m : Int} (h0 : 0 ≤ v) (hv : v ≤ m) (hm : m ≤ 64) : (unD b v m).length ≤ 64 := by
  unfold unD unT
  rw [List.length_append, ones_length]
  split
  · rw [List.length_singleton]
    omega
  · rw [List.length_nil]
    omega

/-- a base for a unary value up to m -/
def UnCx (b m : Int) : Prop := m = 0 ∨ (0 ≤ b ∧ b + mn m 8 ≤ 256)

theorem un_cx {b m i : Int} (hb : UnCx b m) (h0 : 0 ≤ i) (hi : i < m) : 0 ≤ b + mn i 7 ∧ b + mn i 7 < 256 := by
  unfold UnCx mn at *
  rcases hb with h | ⟨h1, h2⟩
  · omega
  · split at h2 <;> split <;> omega

theorem ones_ok {b m : Int} (hb : UnCx b m) : ∀ (n : Nat) (i : Int), 0 ≤ i → i + n ≤ m → ∀ c ∈ ones b i n, DcOk c
  | 0, _, _, _ => by
    intro c hc
    cases hc
  | n + 1, i, h0, h1 => by
    intro c hc
    unfold ones at hc
    rcases List.mem_cons.mp hc with e | hc
    · rw [e]
      refine ⟨.inr rfl, fun j hj => ?_⟩
      have hj2 : b + mn i 7 = j := Option.some.inj hj
      rw [← hj2]
      exact un_cx hb h0 (by omega)
    · exact ones_ok hb n (i + 1) (by omega) (by omega) c hc

theorem unT_ok {b v m : Int} (hb : UnCx b m) (h0 : 0 ≤ v) : ∀ c ∈ unT b v m, DcOk c := by
  intro c hc
  unfold unT at hc
  split at hc
  · rename_i h
    rw [List.mem_singleton] at hc
    rw [hc]
    refine ⟨.inl rfl, fun j hj => ?_⟩
    have hj2 : b + mn v 7 = j := Option.some.inj hj
    rw [← hj2]
    exact un_cx hb h0 h
  · cases hc

theorem unD_ok {b v m : Int} (hb : UnCx b m) (h0 : 0 ≤ v) (hv : v ≤ m) : ∀ c ∈ unD b v m, DcOk c := by
  intro c hc
  unfold unD at hc
  rcases List.mem_append.mp hc with h | h
  · exact ones_ok hb v.toNat 0 (Int.le_refl _) (by omega) c h
  · exact unT_ok hb h0 c h

/-- what is left of a unary value at the place i -/
theorem un_at {b v m : Int} {i : Nat} (h0 : 0 ≤ v) (hi : (i : Int) < v) : ones b i (v.toNat - i) ++ unT b v m = (some (b + mn i 7), 1) :: (ones b ((i + 1 : Nat) : Int) (v.toNat - (i + 1)) ++ unT b v m) := by
  have e : v.toNat - i = v.toNat - (i + 1) + 1 := by omega
  rw [e, ones, List.cons_append]
  rfl

/-! ### a number -/
/-- the digits of m below the place p; k: the number of its digits -/
def nuT (b m : Int) (k : Nat) : Nat → List Dc
  | 0 => []
  | p + 1 => (if p + 2 = k then some (b + 8 + mn ((k : Int) - 2) 7) else none, m / 2 ^ p % 2) :: nuT b m k p
/-- the number of binary digits: 2 ^ (k - 1) ≤ m < 2 ^ k -/
structure Digs (m : Int) (k : Nat) : Prop where
  pos : 1 ≤ k
  lo : (2 : Int) ^ (k - 1) ≤ m
  hi : m < 2 ^ k
def nuD (b v : Int) (k : Nat) : List Dc := unD b ((k : Int) - 1) 20 ++ nuT b (v + 1) k (k - 1)

theorem nuT_length (b m : Int) (k : Nat) : ∀ p, (nuT b m k p).length = p
  | 0 => rfl
  | p + 1 => by rw [nuT, List.length_cons, nuT_length b m k p]

theorem Digs.le {v : Int} {k : Nat} (h : Digs (v + 1) k) (hv : v ≤ 1048576) : k ≤ 21 := by
  by_cases q : k ≤ 21
  · exact q
  · exfalso
    have a := pow_le_pow2 (i := 21) (w := k - 1) (by omega)
    have b := h.lo
    have e : (2 : Int) ^ 21 = 2097152 := by decide
    omega

theorem nu_cx {b : Int} {k : Nat} (hb : 0 ≤ b ∧ b ≤ 240) (hk : 2 ≤ k) : 0 ≤ b + 8 + mn ((k : Int) - 2) 7 ∧ b + 8 + mn ((k : Int) - 2) 7 < 256 := by
  have a := mn_le ((k : Int) - 2) 7
  have c := mn_ge (a := (k : Int) - 2) (b := 7) (c := 0) (by omega) (by omega)
  omega

theorem nuT_ok {b m : Int} {k : Nat} (hb : 0 ≤ b ∧ b ≤ 240) : ∀ p, ∀ c ∈ nuT b m k p, DcOk c
  | 0 => by
    intro c hc
    cases hc
  | p + 1 => by
    intro c hc
    unfold nuT at hc
    rcases List.mem_cons.mp hc with e | hc
    · rw [e]
      refine ⟨bit01 _, fun j hj => ?_⟩
      by_cases q : p + 2 = k
      · have hj1 : (if p + 2 = k then some (b + 8 + mn ((k : Int) - 2) 7) else none) = some j := hj
        rw [if_pos q] at hj1
        rw [← Option.some.inj hj1]
        exact nu_cx hb (by omega)
      · have hj1 : (if p + 2 = k then some (b + 8 + mn ((k : Int) - 2) 7) else none) = some j := hj
        rw [if_neg q] at hj1
        cases hj1
    · exact nuT_ok hb p c hc

theorem nu_un {b : Int} (hb : 0 ≤ b ∧ b ≤ 240) : UnCx b 20 := by
  refine .inr ⟨hb.1, ?_⟩
  have : mn 20 8 = 8 := by decide
  omega

theorem nuD_ok {b v : Int} {k : Nat} (hb : 0 ≤ b ∧ b ≤ 240) (h : Digs (v + 1) k) (hv : v ≤ 1048576) : ∀ c ∈ nuD b v k, DcOk c := by
  intro c hc
  have hk := h.le hv
  have hp := h.pos
  unfold nuD at hc
  rcases List.mem_append.mp hc with q | q
  · exact unD_ok (nu_un hb) (by omega) (by omega) c q
  · exact nuT_ok hb _ c q

theorem nuD_length {b v : Int} {k : Nat} (h : Digs (v + 1) k) (hv : v ≤ 1048576) : (nuD b v k).length ≤ 42 := by
  have hk := h.le hv
  have hp := h.pos
  unfold nuD unD unT
  rw [List.length_append, List.length_append, nuT_length, ones_length]
  split
  · rw [List.length_singleton]
    omega
  · rw [List.length_nil]
    omega

/-- one digit more -/
theorem nu_next (m : Int) (p : Nat) : 2 * (m / 2 ^ (p + 1)) + m / 2 ^ p % 2 = m / 2 ^ p := (half_pow m p).symm
theorem nu_start {m : Int} {k : Nat} (h : Digs m k) : m / 2 ^ (k - 1) = 1 := by
  have a := h.lo
  have b := h.hi
  have c := P_pos (k - 1)
  have e : (2 : Int) ^ k = 2 ^ (k - 1) * 2 := by
    have := h.pos
    obtain ⟨j, rfl⟩ : ∃ j, k = j + 1 := ⟨k - 1, by omega⟩
    exact Int.pow_succ ..
  have h1 : m / 2 ^ (k - 1) < 2 := (Int.ediv_lt_iff_lt_mul c).mpr (by omega)
  have h2 : 1 ≤ m / 2 ^ (k - 1) := (Int.le_ediv_iff_mul_le c).mpr (by omega)
  omega

/-! ### a signed value -/
def ab (v : Int) : Int := if v < 0 then -v else v
def sgT (v : Int) : List Dc := if v = 0 then [] else [(none, if v < 0 then 1 else 0)]
def sgD (b v : Int) (k : Nat) : List Dc := nuD b (ab v) k ++ sgT v

theorem sgT_ok (v : Int) : ∀ c ∈ sgT v, DcOk c := by
  intro c hc
  unfold sgT at hc
  split at hc
  · cases hc
  · rw [List.mem_singleton] at hc
    rw [hc]
    refine ⟨?_, fun j hj => by cases hj⟩
    show (if v < 0 then (1 : Int) else 0) = 0 ∨ (if v < 0 then (1 : Int) else 0) = 1
    split <;> omega

/-! ### a symbol -/
/-- a symbol that the law builds: its kind, base, value, count -/
structure Sy where
  k : Int
  b : Int
  v : Int
  c : Int
  n : Nat   -- the number of digits that its kind asks for

structure SyOk (s : Sy) : Prop where
  kind : 0 ≤ s.k ∧ s.k ≤ 5
  flag : s.k = 0 → (0 ≤ s.b ∧ s.b ≤ 255) ∧ (s.v = 0 ∨ s.v = 1)
  choice : s.k = 1 → (1 ≤ s.c ∧ s.c ≤ 16) ∧ (0 ≤ s.v ∧ s.v < s.c) ∧ (s.n ≤ 4 ∧ s.c ≤ 2 ^ s.n) ∧ (s.n = 0 ∨ (0 ≤ s.b ∧ s.b + 2 ^ s.n ≤ 257))
  unary : s.k = 2 → (0 ≤ s.c ∧ s.c ≤ 64) ∧ (0 ≤ s.v ∧ s.v ≤ s.c) ∧ UnCx s.b s.c
  number : s.k = 3 → (0 ≤ s.b ∧ s.b ≤ 240) ∧ (0 ≤ s.v ∧ s.v ≤ 1048576) ∧ Digs (s.v + 1) s.n
  signed : s.k = 4 → (0 ≤ s.b ∧ s.b ≤ 240) ∧ (-1048576 ≤ s.v ∧ s.v ≤ 1048576) ∧ Digs (ab s.v + 1) s.n
  even : s.k = 5 → s.v = 0 ∨ s.v = 1

def syD (s : Sy) : List Dc :=
  if s.k = 0 then [(some s.b, s.v)]
  else if s.k = 1 then chD s.b s.v 1 s.n
  else if s.k = 2 then unD s.b s.v s.c
  else if s.k = 3 then nuD s.b s.v s.n
  else if s.k = 4 then sgD s.b s.v s.n
  else [(none, s.v)]

theorem ab_le {v : Int} (h : -1048576 ≤ v ∧ v ≤ 1048576) : 0 ≤ ab v ∧ ab v ≤ 1048576 := by
  unfold ab
  split <;> omega

theorem one_node (v : Int) {w : Nat} (h0 : 0 ≤ v) (hv : v < 2 ^ w) : (1 : Int) = 2 ^ 0 + v / 2 ^ (w - 0) := by
  rw [Nat.sub_zero, Int.ediv_eq_zero_of_lt h0 hv]
  rfl

theorem syD_ok {s : Sy} (h : SyOk s) : ∀ c ∈ syD s, DcOk c := by
  intro c hc
  unfold syD at hc
  split at hc
  · rename_i q
    obtain ⟨h1, h2⟩ := h.flag q
    rw [List.mem_singleton] at hc
    rw [hc]
    refine ⟨h2, fun j hj => ?_⟩
    have hj2 : s.b = j := Option.some.inj hj
    omega
  · split at hc
    · rename_i q
      obtain ⟨h1, h2, ⟨h3, h4⟩, h5⟩ := h.choice q
      rcases h5 with e | h5
      · rw [e] at hc
        cases hc
      · exact chD_ok h2.1 (by omega) h5 s.n 0 1 (by omega) (one_node s.v h2.1 (by omega)) c hc
    · split at hc
      · rename_i q
        obtain ⟨h1, h2, h3⟩ := h.unary q
        exact unD_ok h3 h2.1 h2.2 c hc
      · split at hc
        · rename_i q
          obtain ⟨h1, h2, h3⟩ := h.number q
          exact nuD_ok h1 h3 h2.2 c hc
        · split at hc
          · rename_i q
            obtain ⟨h1, h2, h3⟩ := h.signed q
            unfold sgD at hc
            rcases List.mem_append.mp hc with z | z
            · exact nuD_ok h1 h3 (ab_le h2).2 c z
            · exact sgT_ok _ c z
          · rename_i q0 q1 q2 q3 q4
            have q5 : s.k = 5 := by
              have := h.kind
              omega
            rw [List.mem_singleton] at hc
            rw [hc]
            exact ⟨h.even q5, fun j hj => by cases hj⟩

theorem sgT_length (v : Int) : (sgT v).length ≤ 1 := by
  unfold sgT
  split
  · exact Nat.zero_le _
  · exact Nat.le_refl _

theorem syD_length {s : Sy} (h : SyOk s) : (syD s).length ≤ 64 := by
  unfold syD
  split
  · exact Nat.le_trans (Nat.le_refl 1) (by decide)
  · split
    · rename_i q
      rw [chD_length]
      have := (h.choice q).2.2.1.1
      omega
    · split
      · rename_i q
        obtain ⟨h1, h2, h3⟩ := h.unary q
        exact unD_length h2.1 h2.2 h1.2
      · split
        · rename_i q
          obtain ⟨h1, h2, h3⟩ := h.number q
          exact Nat.le_trans (nuD_length h3 h2.2) (by decide)
        · split
          · rename_i q
            obtain ⟨h1, h2, h3⟩ := h.signed q
            have a := nuD_length (b := s.b) h3 (ab_le h2).2
            have b := sgT_length s.v
            unfold sgD
            rw [List.length_append]
            omega
          · exact Nat.le_trans (Nat.le_refl 1) (by decide)

def allD (l : List Sy) : List Dc := l.flatMap syD
theorem allD_cons (s : Sy) (l : List Sy) : allD (s :: l) = syD s ++ allD l := List.flatMap_cons
theorem allD_append (a b : List Sy) : allD (a ++ b) = allD a ++ allD b := List.flatMap_append
theorem allD_ok {l : List Sy} (h : ∀ s ∈ l, SyOk s) : ∀ c ∈ allD l, DcOk c := by
  intro c hc
  obtain ⟨s, hs, hc⟩ := List.mem_flatMap.mp hc
  exact syD_ok (h s hs) c hc
theorem allD_length : ∀ {l : List Sy}, (∀ s ∈ l, SyOk s) → (allD l).length ≤ 64 * l.length
  | [], _ => Nat.le_refl _
  | s :: l, h => by
    rw [allD_cons, List.length_append, List.length_cons]
    have a := syD_length (h s (List.mem_cons_self ..))
    have b := allD_length (l := l) fun t ht => h t (List.mem_cons_of_mem _ ht)
    omega

/-! ### the bits that are pending, in parts -/
/-- the decoder's states behind some decisions -/
def dFold (t : DS) (D : List Dc) : DS := D.foldl (fun s c => dStep s c.1) t
theorem pend_cons {t : DS} {c : Option Int} {d : Int} {D : List Dc} (h : Pend t ((c, d) :: D)) : dBit t (pr t.ch c) = d ∧ Pend (dStep t c) D := h

end Thm
namespace Th
open PySem PySem.Spec PyProof.Rows L2
def top (i : Nat) : Stmt := PySem.Challenge.pw_thaumatrope_k16_whole_symbols_read_back.main.body.getD i (.Pass ⟨0, 0, 0, 0⟩)
abbrev sCxs : Stmt := top 6
abbrev sCch : Stmt := top 7
abbrev sCun : Stmt := top 8
abbrev sWinit : Stmt := inClass (top 9) 0
abbrev sWeven : Stmt := inClass (top 9) 1
abbrev sWflag : Stmt := inClass (top 9) 2
abbrev sWchoice : Stmt := inClass (top 9) 3
abbrev sWunary : Stmt := inClass (top 9) 4
abbrev sWnumber : Stmt := inClass (top 9) 5
abbrev sWsigned : Stmt := inClass (top 9) 6
abbrev sRinit : Stmt := inClass (top 10) 0
abbrev sReven : Stmt := inClass (top 10) 1
abbrev sRflag : Stmt := inClass (top 10) 2
abbrev sRchoice : Stmt := inClass (top 10) 3
abbrev sRunary : Stmt := inClass (top 10) 4
abbrev sRnumber : Stmt := inClass (top 10) 5
abbrev sRsigned : Stmt := inClass (top 10) 6
abbrev sAda : Stmt := top 16
abbrev sCcx : Stmt := top 17
abbrev sCde : Stmt := top 18
abbrev sEinit : Stmt := inClass (top 19) 0
abbrev sEstep : Stmt := inClass (top 19) 1
abbrev sEcode : Stmt := inClass (top 19) 2
abbrev sEeven : Stmt := inClass (top 19) 3
abbrev sEocts : Stmt := inClass (top 19) 5
abbrev sDinit : Stmt := inClass (top 20) 0
abbrev sDfoll : Stmt := inClass (top 20) 1
abbrev sDstep : Stmt := inClass (top 20) 2
abbrev sDread : Stmt := inClass (top 20) 3
abbrev sDeven : Stmt := inClass (top 20) 4
abbrev sDraws : Stmt := top 23
abbrev sSym : Stmt := top 24
abbrev sPut : Stmt := top 25
abbrev sGet : Stmt := top 26
abbrev sLaw : Stmt := top 27
abbrev FnP (K : PySem.W.Frag) (x qual : Str) (st : Stmt) (f : Addr) (fd : FuncData) : Prop := FunD K x qual (defArgs st) (defBody st) (defScope st) [] [] f fd
end Th
namespace Th
open PySem PySem.Spec PyProof.Rows L2
/-! ### a method called with keywords -/
def tMethN (C : Addr) (m : Str) (n j : Nat) (sp : Sp) (gV : List V → List V → List V) (E : XK) (ta : TE) (t tk : TA) : TE := fun σ H Q =>
  ta σ H fun x H1 => ∃ a dx fs, x = .ref a ∧ H1 a = some (.ins C dx fs) ∧ fs.lookup m = none ∧
    t σ H1 fun vs H2 => tk σ H2 fun zs H3 => (x :: vs).length = n ∧ zs.length = j ∧ sp (gV (x :: vs) zs) H3 Q E
theorem pe_methN {X : Cx} {CX : CXT} {k n : Nat} {C f : Addr} {m : Str} {fd : FuncData} {ps ks : List Str} {sp : Sp} {E : XK} {o e : Expr} {es : List Expr} {kws : List Keyword} {ta : TE} {t tk : TA} {apos pos : Pos} {pl : Sem Bool}
    {g : List Value → List Value → List Value} {gV : List V → List V → List V}
    (ho : PE X o ta) (c : Cls X.K C) (hm : Meth X.K C m f) (F : FnOk X.prog X.w X.K X.mg X.base CX k f fd ps sp) (room : Room k X.A) (kb : KBn X.K fd ps n ks g gV) (pass : Passes CX X E)
    (args : PA X (e :: es) t) (kwa : PK X kws tk)
    (named : (backToKw pos (keywordEach kws X.env)).all (·.1.isSome) = true := by rfl)
    (names : (backToKw pos (keywordEach kws X.env)).filterMap (·.1) = ks := by rfl)
    (first : starEach (e :: es) X.env = (false, eval e X.env) :: starEach es X.env := by rfl)
    (plain : ((backTo pos (starEach (e :: es) X.env)).any (·.1) || (backToKw pos (keywordEach kws X.env)).any (·.1.isNone)) = false := by rfl)
    (tree : eval (.Call (.Attribute o m apos) (e :: es) kws pos) X.env = (eval o X.env >>= fun ov => standAt apos.atName >>= fun _ => holding [ov] (getMethod ov m pl) >>= fun r =>
      callWith pos r.1 r.2 (backTo pos (starEach (e :: es) X.env)) (backToKw pos (keywordEach kws X.env))) := by rfl) :
    PE X (.Call (.Attribute o m apos) (e :: es) kws pos) (tMethN C m n ks.length sp gV E ta t tk) := by
  constructor
  intro pins s σ H Q I0 asked
  refine PySem.W.methodCall_KW (pl := pl) (thn (ho.run pins s σ H _ I0 asked) ?_) tree
  rintro u s1 ⟨x, H1, I1, rx, a, dx, fs, rfl, ea, noM, q1⟩
  cases (show u = Value.ref a from rx)
  refine getmeth_ok I1 ea c hm noM ?_
  refine PySem.W.callWith_KW (first := [.ref a]) (h₀ := X.base) I1.ok.mod.kin hm.kp named (thn (args.run pos pins s1 σ H1 _ I1 q1) ?_) plain first
  rintro us s2 ⟨vs, H2, I2, rv, q2⟩
  refine thn (kwa.run pos pins s2 σ H2 _ I2 q2) ?_
  rintro ws s3 ⟨zs, H3, I3, rz, l1, l2, q3⟩
  refine ⟨I3.kIn, ?_⟩
  rw [names]
  exact run_fnN (us := .ref a :: us) (vs := .ref a :: vs) F room kb pass I3 (.cons rfl rv) rz l1 l2 q3
/-! ### a def of the text -/
theorem toFun {K : PySem.W.Frag} {x qual : Str} {st : Stmt} {f : Addr} {fd : FuncData} (F : FnP K x qual st f fd) : Fun K x qual st f fd := by
  obtain ⟨oc, od, dV, kV, doc, pm, an, cdv, ct, osl, e, lk, hc, hD, hK⟩ := F.ex
  rcases hD with ⟨_, rfl⟩ | ⟨z, _⟩
  · exact ⟨⟨oc, od, kV, doc, pm, an, cdv, ct, osl, e, lk, hc⟩, F.kp⟩
  · exact absurd rfl z
/-- keyword-only parameters without defaults, all of them given -/
theorem kbn_of {K : PySem.W.Frag} {x qual : Str} {st : Stmt} {f : Addr} {fd : FuncData} {ps ks : List Str} {n : Nat} (F : Fun K x qual st f fd)
    (h : ∀ (kV doc pm : Value) (an : Option Addr) (cdv ct : Value) (us ws : List Value), us.length = n → ws.length = ks.length →
      bindArgs (PySem.W.fnOf x qual (defArgs st) (defBody st) (defScope st) .none kV doc pm an cdv ct) ⟨us, ks.zip ws⟩ = pure (ps.zip (us ++ ws))) : KBn K fd ps n ks (fun us ws => us ++ ws) (fun vs zs => vs ++ zs) := by
  obtain ⟨oc, od, kV, doc, pm, an, cdv, ct, osl, rfl, lk, hc⟩ := F.ex
  exact ⟨fun s us ws _ l1 l2 => .of_eq (h kV doc pm an cdv ct us ws l1 l2), fun r1 r2 => r1.append r2⟩
/-! ### a whole number of the module -/
theorem pe_gi {X : Cx} {x : Str} {pos : Pos} {i : Int} (h : ∃ t, X.mg x = some (.int i t)) (hg : Gl X x := by rfl) (nd : (x == ("__debug__" : Str)) = false := by decide) : PE X (.Name x pos) (tC (.int i)) := by
  obtain ⟨t, e⟩ := h
  exact pe_glob hg e ⟨_, rfl⟩ nd
/-! ### tests -/
theorem iteB {c : Prop} [Decidable c] {A B : Prop} (h1 : c → A) (h2 : ¬ c → B) : if decide c = true then A else B := by
  by_cases h : c
  · rw [decide_eq_true h]
    exact iteT (h1 h)
  · rw [decide_eq_false h]
    exact iteF (h2 h)
theorem iteN {c : Prop} [Decidable c] {A B : Prop} (h1 : ¬ c → A) (h2 : c → B) : if (!decide c) = true then A else B := by
  by_cases h : c
  · rw [decide_eq_true h]
    exact iteF (h2 h)
  · rw [decide_eq_false h]
    exact iteT (h1 h)
theorem iteE {i j : Int} {A B : Prop} (h1 : i = j → A) (h2 : ¬ i = j → B) : if decide (V.int i = V.int j) = true then A else B :=
  iteB (fun h => h1 (V.int.inj h)) (fun h => h2 fun e => h (congrArg V.int e))
theorem iteM {i j : Int} {A B : Prop} (h1 : ¬ i = j → A) (h2 : i = j → B) : if (!decide (V.int i = V.int j)) = true then A else B :=
  iteN (fun h => h1 fun e => h (congrArg V.int e)) (fun h => h2 (V.int.inj h))
/-! ### the text's facts -/
abbrev cE (K : PySem.W.Frag) : Addr := He.ga K "Encoder"
abbrev cD (K : PySem.W.Frag) : Addr := He.ga K "Decoder"
abbrev cW (K : PySem.W.Frag) : Addr := He.ga K "SymbolWriter"
abbrev cR (K : PySem.W.Frag) : Addr := He.ga K "SymbolReader"
structure Txt (K : PySem.W.Frag) (mg : Str → Option Value) : Prop where
  maxn : ∃ t, mg "MAX_NUMBER" = some (.int 1048576 t)
  prefx : ∃ t, mg "PREFIX" = some (.int 20 t)
  ctxs : ∃ t, mg "CONTEXTS" = some (.int 256 t)
  evn : ∃ t, mg "EVEN" = some (.int 2048 t)
  full : ∃ t, mg "FULL" = some (.int 4294967295 t)
  least : ∃ t, mg "LEAST" = some (.int 16777216 t)
  len : mg "len" = none
  range : mg "range" = none
  min : mg "min" = none
  max : mg "max" = none
  abs : mg "abs" = none
  int : mg "int" = none
  bool : mg "bool" = none
  isi : mg "isinstance" = none
  list : mg "list" = none
  clE : Cls K (cE K)
  clD : Cls K (cD K)
  clW : Cls K (cW K)
  clR : Cls K (cR K)
  nWe : NoAttr K (cW K) "encoder"
  nRd : NoAttr K (cR K) "decoder"
  nEc : NoAttr K (cE K) "chances"
  nEl : NoAttr K (cE K) "low"
  nEs : NoAttr K (cE K) "span"
  nEh : NoAttr K (cE K) "shifts"
  nDc : NoAttr K (cD K) "chances"
  nDs : NoAttr K (cD K) "source"
  nDp : NoAttr K (cD K) "place"
  nDn : NoAttr K (cD K) "span"
  nDv : NoAttr K (cD K) "value"
/-! ### frames: all but what stands at a and b is kept -/
def Frm (a b : Addr) (H H' : Hp) : Prop := ∀ p o, H p = some o → p ≠ a → p ≠ b → H' p = some o
theorem Frm.refl {a b : Addr} (H : Hp) : Frm a b H H := fun _ _ h _ _ => h
theorem Frm.trans {a b : Addr} {H H1 H2 : Hp} (h : Frm a b H H1) (k : Frm a b H1 H2) : Frm a b H H2 := fun p o e ha hb => k p o (h p o e ha hb) ha hb
theorem Frm.at1 {a b : Addr} {H : Hp} {o : HO} : Frm a b H (upd H a o) := fun p u e ha _ => by rw [upd_ne ha]; exact e
theorem Frm.at2 {a b : Addr} {H : Hp} {o : HO} : Frm a b H (upd H b o) := fun p u e _ hb => by rw [upd_ne hb]; exact e
theorem Same.frm {a b : Addr} {H H' : Hp} (h : Same H H') : Frm a b H H' := fun p o e _ _ => h p o e
theorem same_new {H : Hp} {p : Addr} {o : HO} (h : H p = none) : Same H (upd H p o) := fun b u e => by rw [upd_ne (ne_of_none e h)]; exact e
/-! ### the objects -/
def efl (ca : Addr) (low span : Int) (sh : Nat) : List (Str × V) := [("chances", .ref ca), ("low", .int low), ("span", .int span), ("shifts", .int (sh : Int))]
def dfl (ca sa : Addr) (place : Nat) (span value : Int) : List (Str × V) := [("chances", .ref ca), ("source", .ref sa), ("place", .int (place : Int)), ("span", .int span), ("value", .int value)]
section
variable {ca sa : Addr} {low span value x : Int} {sh place n : Nat}
theorem k_cl : ¬ (("chances" : Str) = "low") := by decide +kernel
theorem k_lc : ¬ (("low" : Str) = "chances") := by decide +kernel
theorem k_cs : ¬ (("chances" : Str) = "span") := by decide +kernel
theorem k_ls : ¬ (("low" : Str) = "span") := by decide +kernel
theorem k_ch : ¬ (("chances" : Str) = "shifts") := by decide +kernel
theorem k_lh : ¬ (("low" : Str) = "shifts") := by decide +kernel
theorem k_sh : ¬ (("span" : Str) = "shifts") := by decide +kernel
theorem k_co : ¬ (("chances" : Str) = "source") := by decide +kernel
theorem k_cp : ¬ (("chances" : Str) = "place") := by decide +kernel
theorem k_op : ¬ (("source" : Str) = "place") := by decide +kernel
theorem k_os : ¬ (("source" : Str) = "span") := by decide +kernel
theorem k_ps : ¬ (("place" : Str) = "span") := by decide +kernel
theorem k_cv : ¬ (("chances" : Str) = "value") := by decide +kernel
theorem k_ov : ¬ (("source" : Str) = "value") := by decide +kernel
theorem k_pv : ¬ (("place" : Str) = "value") := by decide +kernel
theorem k_sv : ¬ (("span" : Str) = "value") := by decide +kernel
theorem e_ch : (efl ca low span sh).lookup ("chances" : Str) = some (.ref ca) := by rfl
theorem e_low : (efl ca low span sh).lookup ("low" : Str) = some (.int low) := by rfl
theorem e_span : (efl ca low span sh).lookup ("span" : Str) = some (.int span) := by rfl
theorem e_sh : (efl ca low span sh).lookup ("shifts" : Str) = some (.int (sh : Int)) := by rfl
theorem e_plow : putF "low" (.int x) (efl ca low span sh) = efl ca x span sh := by
  show putF _ _ [_, _, _, _] = _
  simp only [putF, k_cl, if_false, if_true]
  rfl
theorem e_pspan : putF "span" (.int x) (efl ca low span sh) = efl ca low x sh := by
  show putF _ _ [_, _, _, _] = _
  simp only [putF, k_cs, k_ls, if_false, if_true]
  rfl
theorem e_psh : putF "shifts" (.int ((sh : Int) + 1)) (efl ca low span sh) = efl ca low span (sh + 1) := by
  show putF _ _ [_, _, _, _] = _
  simp only [putF, k_ch, k_lh, k_sh, if_false, if_true]
  rfl
theorem d_ch : (dfl ca sa place span value).lookup ("chances" : Str) = some (.ref ca) := by rfl
theorem d_src : (dfl ca sa place span value).lookup ("source" : Str) = some (.ref sa) := by rfl
theorem d_place : (dfl ca sa place span value).lookup ("place" : Str) = some (.int (place : Int)) := by rfl
theorem d_span : (dfl ca sa place span value).lookup ("span" : Str) = some (.int span) := by rfl
theorem d_value : (dfl ca sa place span value).lookup ("value" : Str) = some (.int value) := by rfl
theorem d_pplace : putF "place" (.int ((place : Int) + 1)) (dfl ca sa place span value) = dfl ca sa (place + 1) span value := by
  show putF _ _ [_, _, _, _, _] = _
  simp only [putF, k_cp, k_op, if_false, if_true]
  rfl
theorem d_pspan : putF "span" (.int x) (dfl ca sa place span value) = dfl ca sa place x value := by
  show putF _ _ [_, _, _, _, _] = _
  simp only [putF, k_cs, k_os, k_ps, if_false, if_true]
  rfl
theorem d_pvalue : putF "value" (.int x) (dfl ca sa place span value) = dfl ca sa place span x := by
  show putF _ _ [_, _, _, _, _] = _
  simp only [putF, k_cv, k_ov, k_pv, k_sv, if_false, if_true]
  rfl
end
/-! ### an encoder that stands in the heap -/
structure EAt (K : PySem.W.Frag) (H : Hp) (a ca : Addr) (s : Thm.ES) : Prop where
  ob : ∃ dx, H a = some (.ins (cE K) dx (efl ca s.low s.span s.sh))
  ch : H ca = some (.lst (s.ch.map V.int))
theorem EAt.ne {K : PySem.W.Frag} {H : Hp} {a ca : Addr} {s : Thm.ES} (h : EAt K H a ca s) : a ≠ ca := by
  obtain ⟨dx, e⟩ := h.ob
  exact ne_of e h.ch (by intro z; cases z)
/-- a decoder that stands in the heap -/
structure DAt (K : PySem.W.Frag) (H : Hp) (a ca sa : Addr) (t : Thm.DS) : Prop where
  ob : ∃ dx, H a = some (.ins (cD K) dx (dfl ca sa t.place t.span t.value))
  ch : H ca = some (.lst (t.ch.map V.int))
  sr : H sa = some (.lst (t.src.map V.int))
  ns : ca ≠ sa
theorem DAt.ne {K : PySem.W.Frag} {H : Hp} {a ca sa : Addr} {t : Thm.DS} (h : DAt K H a ca sa t) : a ≠ ca := by
  obtain ⟨dx, e⟩ := h.ob
  exact ne_of e h.ch (by intro z; cases z)
theorem DAt.ne2 {K : PySem.W.Frag} {H : Hp} {a ca sa : Addr} {t : Thm.DS} (h : DAt K H a ca sa t) : a ≠ sa := by
  obtain ⟨dx, e⟩ := h.ob
  exact ne_of e h.sr (by intro z; cases z)
end Th
namespace Th
open PySem PySem.Spec PyProof.Rows L2
section
variable {P : Program} {w : World} {K : PySem.W.Frag} {mg : Str → Option Value} {base : Heap}
/-! ### adapted -/
def spAda : Sp := fun vs H Q _ => ∃ p d : Int, vs = [.int p, .int d] ∧ Q (.int (Thm.adp p d)) H
theorem scAda : FnScope ["probability", "decision"] ["probability", "decision"] (defScope sAda) := ⟨rfl, rfl, rfl, by decide +kernel, rfl, by decide +kernel, by decide +kernel⟩
theorem okAda {f : Addr} {fd : FuncData} (F : Fun K "adapted" "adapted" sAda f fd) : FnOk P w K mg base CX0 1 f fd ["probability", "decision"] spAda := by
  refine F.ok scAda (fun vs H Q E h => ?_) (fun cdv A outer s H vs Q E hr h => ?_)
  · obtain ⟨p, d, rfl, _⟩ := h
    rfl
  · obtain ⟨p, d, rfl, k⟩ := h
    refine ⟨_, pss_cons (ps_if (pt_cmpR op_eq (pv 1) pe_int (nomark _)) (pss_one (ps_ret (pe_op op_add (pv 0) (pe_op op_shr (pe_op op_sub pe_int (pv 0)) pe_int)))) pss_nil)
      (pss_one (ps_ret (pe_op op_sub (pv 0) (pe_op op_shr (pv 0) pe_int)))), ?_⟩
    refine ⟨_, rfl, rfl, _, rfl, iteE (fun e => ?_) (fun e => ?_)⟩
    · refine ⟨_, rfl, _, rfl, _, _, rfl, rfl, _, _, rfl, rfl, (by show (0 : Int) ≤ 5; decide), _, _, rfl, rfl, ?_⟩
      unfold Thm.adp at k
      rw [if_pos e] at k
      exact k
    · refine ⟨_, rfl, _, rfl, _, _, rfl, rfl, (by show (0 : Int) ≤ 5; decide), _, _, rfl, rfl, ?_⟩
      unfold Thm.adp at k
      rw [if_neg e] at k
      exact k
/-! ### check_context, check_decision -/
def spCcx : Sp := fun vs H Q _ => ∃ c : Int, vs = [.int c] ∧ 0 ≤ c ∧ c < 256 ∧ Q .non H
theorem scCcx : FnScope ["context"] ["context"] (defScope sCcx) := ⟨rfl, rfl, rfl, by decide +kernel, rfl, by decide +kernel, by decide +kernel⟩
theorem okCcx {f : Addr} {fd : FuncData} (F : Fun K "check_context" "check_context" sCcx f fd) (T : Txt K mg) : FnOk P w K mg base CX0 1 f fd ["context"] spCcx := by
  refine F.ok scCcx (fun vs H Q E h => ?_) (fun cdv A outer s H vs Q E hr h => ?_)
  · obtain ⟨c, rfl, _⟩ := h
    rfl
  · obtain ⟨c, rfl, h0, h1, k⟩ := h
    refine ⟨_, pss_one (ps_if (pt_not (pt_chain op_le op_lt pe_int (pv 0) (pe_gi T.ctxs))) (pss_one ps_never) pss_nil), ?_⟩
    refine ⟨_, rfl, _, _, rfl, rfl, _, rfl, iteB (fun _ => ⟨_, _, rfl, rfl, _, rfl, ?_⟩) (fun h => absurd h0 h)⟩
    exact iteN (fun h => absurd h1 h) (fun _ => k)
def spCde : Sp := fun vs H Q _ => ∃ d : Int, vs = [.int d] ∧ (d = 0 ∨ d = 1) ∧ Q .non H
theorem scCde : FnScope ["decision"] ["decision"] (defScope sCde) := ⟨rfl, rfl, rfl, by decide +kernel, rfl, by decide +kernel, by decide +kernel⟩
theorem okCde {f : Addr} {fd : FuncData} (F : Fun K "check_decision" "check_decision" sCde f fd) (T : Txt K mg) : FnOk P w K mg base CX0 1 f fd ["decision"] spCde := by
  refine F.ok scCde (fun vs H Q E h => ?_) (fun cdv A outer s H vs Q E hr h => ?_)
  · obtain ⟨c, rfl, _⟩ := h
    rfl
  · obtain ⟨c, rfl, h1, k⟩ := h
    refine ⟨_, pss_one (ps_if (pt_not (pt_chain op_le op_le pe_int (pv 0) pe_int)) (pss_one ps_never) pss_nil), ?_⟩
    refine ⟨_, rfl, _, _, rfl, rfl, _, rfl, iteB (fun _ => ⟨_, _, rfl, rfl, _, rfl, ?_⟩) (fun h => absurd (by omega) h)⟩
    exact iteN (fun h => absurd (by omega) h) (fun _ => k)
/-! ### Encoder.__init__ -/
theorem flat_rep (v : V) : ∀ n : Nat, (List.replicate n [v]).flatten = List.replicate n v
  | 0 => rfl
  | n + 1 => by rw [List.replicate_succ, List.flatten_cons, flat_rep v n] <;> rfl
theorem rep_ch0 : (List.replicate (256 : Int).toNat [V.int 2048]).flatten = Thm.ch0.map V.int := by
  rw [flat_rep]
  unfold Thm.ch0
  rw [List.map_replicate]
  rfl
def spEinit (K : PySem.W.Frag) : Sp := fun vs H Q _ => ∃ (a dx : Addr), vs = [.ref a] ∧ H a = some (.ins (cE K) dx []) ∧
  ∀ (ca : Addr) (H' : Hp), H ca = none → EAt K H' a ca Thm.e0 → (∀ b o, H b = some o → b ≠ a → H' b = some o) → Q .non H'
theorem scEinit : FnScope ["self"] ["self"] (defScope sEinit) := ⟨rfl, rfl, rfl, by decide +kernel, rfl, by decide +kernel, by decide +kernel⟩
theorem okEinit {f : Addr} {fd : FuncData} (F : Fun K "__init__" "Encoder.__init__" sEinit f fd) (T : Txt K mg) : FnOk P w K mg base CX0 1 f fd ["self"] (spEinit K) := by
  refine F.ok scEinit (fun vs H Q E h => ?_) (fun cdv A outer s H vs Q E hr h => ?_)
  · obtain ⟨a, dx, rfl, _⟩ := h
    rfl
  · obtain ⟨a, dx, rfl, ha, k⟩ := h
    refine ⟨_, pss_cons (ps_fld (pv 0) (pe_op op_rep (pe_lst (pa_cons (pe_gi T.evn) pa_nil)) (pe_gi T.ctxs)) rfl)
      (pss_cons (ps_fld (pv 0) pe_int rfl) (pss_cons (ps_fld (pv 0) (pe_gi T.full) rfl) (pss_one (ps_fld (pv 0) pe_int rfl)))), ?_⟩
    refine ⟨by decide, fun l hl => ⟨l, _, _, rfl, rfl, upd_same, by decide, by decide, by decide, fun ca hca => ?_⟩⟩
    rw [rep_ch0]
    have nal : a ≠ l := ne_of_none ha hl
    have nac : a ≠ ca := ne_of_none (by rw [upd_ne nal]; exact ha) hca
    have nlc : l ≠ ca := ne_of_none upd_same hca
    have hca0 : H ca = none := by
      rw [upd_ne nlc.symm] at hca
      exact hca
    refine ⟨_, rfl, a, _, dx, [], rfl, (by rw [upd_ne nac, upd_ne nal]; exact ha), T.clE, T.nEc, (by decide), ?_⟩
    refine ⟨_, rfl, a, _, dx, _, rfl, upd_same, T.clE, T.nEl, (by show 1 < 1000; decide), ?_⟩
    refine ⟨_, rfl, a, _, dx, _, rfl, upd_same, T.clE, T.nEs, (by show 2 < 1000; decide), ?_⟩
    refine ⟨_, rfl, a, _, dx, _, rfl, upd_same, T.clE, T.nEh, (by show 3 < 1000; decide), ?_⟩
    refine k ca _ hca0 ⟨⟨dx, upd_same⟩, ?_⟩ fun b o e hb => ?_
    · rw [upd_ne nac.symm, upd_ne nac.symm, upd_ne nac.symm, upd_ne nac.symm, upd_same]
      rfl
    · rw [upd_ne hb, upd_ne hb, upd_ne hb, upd_ne hb, upd_ne (ne_of_none e hca0), upd_ne (ne_of_none e hl)]
      exact e
/-! ### Encoder.step -/
theorem norm_ge {s : Thm.ES} (h : ¬ s.span < 16777216) : Thm.eNorm s = s := if_neg h
theorem norm_lt {s : Thm.ES} (h : s.span < 16777216) : Thm.eNorm s = { s with low := s.low * 256, span := s.span * 256, sh := s.sh + 1 } := if_pos h
def tEW (K : PySem.W.Frag) : TS := tWhile (tTest (tOp (rI0 fun i j => .bl (decide (i < j))) (tFld K (tVar 0) "span") (tC (.int 16777216))))
  (tSeq (sFld K (tVar 0) (tOp (rI CMul fun i j => .int (i * j)) (tFld K (tVar 0) "low") (tC (.int 256))) "low")
  (tSeq (sFld K (tVar 0) (tOp (rI CMul fun i j => .int (i * j)) (tFld K (tVar 0) "span") (tC (.int 256))) "span") (sFldAug K (tVar 0) (tC (.int 1)) rAdd "shifts")))
theorem rdEW (T : Txt K mg) {a ca : Addr} {s : Thm.ES} {D : Ends} {σ : L2.St} {H : Hp} (hσ : σ[0]? = some (some (.ref a))) (R : EAt K H a ca s) (h1 : 65536 ≤ s.span)
    (k : ∀ H', EAt K H' a ca (Thm.eNorm s) → Frm a ca H H' → D.nx σ H') : tEW K D σ H := by
  refine ⟨fun m σ' H' => σ' = σ ∧ ∃ s', EAt K H' a ca s' ∧ Frm a ca H H' ∧ Thm.eNorm s' = Thm.eNorm s ∧ 65536 ≤ s'.span ∧ (m = 0 → ¬ s'.span < 16777216), ⟨1, rfl, s, R, Frm.refl H, rfl, h1, by intro z; cases z⟩, ?_⟩
  rintro m σ' H' ⟨rfl, s', R', fr, en, hs, hm⟩
  obtain ⟨dx, ob⟩ := R'.ob
  have nac := R'.ne
  refine ⟨_, hσ, a, _, dx, _, _, rfl, ob, T.clE, T.nEs, e_span, _, _, rfl, rfl, _, rfl, iteB (fun hlt => ?_) (fun hge => ?_)⟩
  · refine ⟨fun σ2 H2 => σ2 = σ' ∧ ∃ s'', EAt K H2 a ca s'' ∧ Frm a ca H H2 ∧ Thm.eNorm s'' = Thm.eNorm s ∧ 65536 ≤ s''.span ∧ ¬ s''.span < 16777216, ?_, ?_⟩
    · rintro σ2 H2 ⟨rfl, s'', q1, q2, q3, q4, q5⟩
      refine ⟨0, ?_, rfl, s'', q1, q2, q3, q4, fun _ => q5⟩
      cases m with
      | zero => exact absurd hlt (hm rfl)
      | succ n => exact Nat.succ_pos n
    · refine ⟨_, hσ, a, _, dx, _, _, rfl, ob, T.clE, T.nEl, e_low, _, _, rfl, rfl, .inr ⟨by decide, by decide⟩, _, hσ, a, _, dx, _, rfl, ob, T.clE, T.nEl, (by show 4 < 1000; decide), ?_⟩
      rw [e_plow]
      refine ⟨_, hσ, a, _, dx, _, _, rfl, upd_same, T.clE, T.nEs, e_span, _, _, rfl, rfl, .inr ⟨by decide, by decide⟩, _, hσ, a, _, dx, _, rfl, upd_same, T.clE, T.nEs, (by show 4 < 1000; decide), ?_⟩
      rw [e_pspan]
      refine ⟨_, hσ, a, _, dx, _, _, rfl, upd_same, T.clE, T.nEh, e_sh, _, _, rfl, rfl, dx, _, upd_same, (by show 4 < 1000; decide), ?_⟩
      rw [e_psh, upd_upd, upd_upd]
      refine ⟨rfl, { s' with low := s'.low * 256, span := s'.span * 256, sh := s'.sh + 1 }, ⟨⟨dx, upd_same⟩, by rw [upd_ne nac.symm]; exact R'.ch⟩, fr.trans Frm.at1, ?_, ?_, ?_⟩
      · rw [← en, norm_lt hlt]
        refine norm_ge ?_
        show ¬ s'.span * 256 < 16777216
        omega
      · show 65536 ≤ s'.span * 256
        omega
      · show ¬ s'.span * 256 < 16777216
        omega
  · rw [norm_ge hge] at en
    refine k H' ?_ fr
    rw [← en]
    exact R'
def spEstep (K : PySem.W.Frag) : Sp := fun vs H Q _ => ∃ (a ca : Addr) (s : Thm.ES) (p d : Int), vs = [.ref a, .int p, .int d] ∧ EAt K H a ca s ∧ Thm.EOk s ∧ (31 ≤ p ∧ p ≤ 4065) ∧
  ∀ H', EAt K H' a ca (Thm.eNorm (Thm.eRaw s p d)) → Frm a ca H H' → Q .non H'
theorem scEstep : FnScope ["self", "probability", "decision", "part"] ["self", "probability", "decision"] (defScope sEstep) := ⟨rfl, rfl, rfl, by decide +kernel, rfl, by decide +kernel, by decide +kernel⟩
theorem okEstep {f : Addr} {fd : FuncData} (F : Fun K "step" "Encoder.step" sEstep f fd) (T : Txt K mg) : FnOk P w K mg base CX0 1 f fd ["self", "probability", "decision"] (spEstep K) := by
  refine F.ok scEstep (fun vs H Q E h => ?_) (fun cdv A outer s H vs Q E hr h => ?_)
  · obtain ⟨a, ca, s, p, d, rfl, _⟩ := h
    rfl
  · obtain ⟨a, ca, s, p, d, rfl, R, ok, hp, k⟩ := h
    obtain ⟨dx, ob⟩ := R.ob
    have nac := R.ne
    refine ⟨_, pss_cons (ps_set (i := 3) scEstep.nd rfl (Or.inl rfl) (pe_op op_mul (pe_op op_shr (pe_fld (pv 0) rfl) pe_int) (pv 1)))
      (pss_cons (ps_if (pt_cmpR op_eq (pv 2) pe_int (nomark _)) (pss_one (ps_fld (pv 0) (pv 3) rfl)) (pss_cons (ps_fldaug (pv 0) (pv 3) in_add) (pss_one (ps_fldaug (pv 0) (pv 3) in_sub))))
      (pss_one (ps_while PassesOwn.never (pt_cmpR op_lt (pe_fld (pv 0) rfl) (pe_gi T.least) (nomark _))
        (pss_cons (ps_fld (pv 0) (pe_op op_mul (pe_fld (pv 0) rfl) pe_int) rfl) (pss_cons (ps_fld (pv 0) (pe_op op_mul (pe_fld (pv 0) rfl) pe_int) rfl) (pss_one (ps_fldaug (pv 0) pe_int in_add))))))), ?_⟩
    have hspan := (Thm.eRaw_ok (d := d) ok hp).1
    refine ⟨_, rfl, a, _, dx, _, _, rfl, ob, T.clE, T.nEs, e_span, _, _, rfl, rfl, (by show (0 : Int) ≤ 12; decide), _, rfl, _, _, rfl, rfl, .inr ⟨by omega, by omega⟩, ?_⟩
    refine ⟨_, rfl, rfl, _, rfl, iteE (fun e => ?_) (fun e => ?_)⟩
    · have er : Thm.eRaw s p d = { s with span := s.span / 4096 * p } := by
        unfold Thm.eRaw
        rw [if_pos e]
      rw [er] at k hspan
      refine ⟨_, rfl, _, rfl, a, _, dx, _, rfl, ob, T.clE, T.nEs, (by show 4 < 1000; decide), ?_⟩
      refine rdEW T (ca := ca) rfl ⟨⟨dx, Eq.trans upd_same (congrArg (fun l => some (HO.ins (cE K) dx l)) e_pspan)⟩, by rw [upd_ne nac.symm]; exact R.ch⟩ hspan fun H' R' fr => k H' R' (Frm.trans Frm.at1 fr)
    · have er : Thm.eRaw s p d = { s with low := s.low + s.span / 4096 * p, span := s.span - s.span / 4096 * p } := by
        unfold Thm.eRaw
        rw [if_neg e]
      rw [er] at k hspan
      refine ⟨_, rfl, a, _, dx, _, _, rfl, ob, T.clE, T.nEl, e_low, _, rfl, _, _, rfl, rfl, dx, _, ob, (by show 4 < 1000; decide), ?_⟩
      rw [e_plow]
      refine ⟨_, rfl, a, _, dx, _, _, rfl, upd_same, T.clE, T.nEs, e_span, _, rfl, _, _, rfl, rfl, dx, _, upd_same, (by show 4 < 1000; decide), ?_⟩
      rw [e_pspan, upd_upd]
      refine rdEW T (ca := ca) rfl ⟨⟨dx, upd_same⟩, by rw [upd_ne nac.symm]; exact R.ch⟩ hspan fun H' R' fr => k H' R' (Frm.trans Frm.at1 fr)
end
end Th
namespace Th
open PySem PySem.Spec PyProof.Rows L2
/-! ### the chances -/
theorem ixN_at {n : Nat} {c : Int} (h0 : 0 ≤ c) (h1 : c < n) : ixN n c = some c.toNat := by
  unfold ixN
  rw [if_pos h0, if_pos h1]
theorem at_ch {ch : List Int} {c : Int} (h : Thm.COk ch) (h0 : 0 ≤ c) (h1 : c < 256) : atI (ch.map V.int) c = some (.int (ch.getD c.toNat 0)) := by
  have hl : c.toNat < ch.length := by
    rw [h.len]
    omega
  have e : atI (ch.map V.int) ((c.toNat : Nat) : Int) = some (.int (ch.getD c.toNat 0)) := atI_nat (by
    rw [List.getElem?_map, List.getElem?_eq_getElem hl, List.getD_eq_getElem?_getD, List.getElem?_eq_getElem hl]
    rfl)
  rw [Int.toNat_of_nonneg h0] at e
  exact e
theorem ix_ch {ch : List Int} {c : Int} (h : Thm.COk ch) (h0 : 0 ≤ c) (h1 : c < 256) : ixN (ch.map V.int).length c = some c.toNat := by
  rw [List.length_map, h.len]
  exact ixN_at h0 h1
section
variable {P : Program} {w : World} {K : PySem.W.Frag} {mg : Str → Option Value} {base : Heap}
/-! ### Encoder.code, Encoder.code_even -/
theorem norm_ch {s : Thm.ES} {p d : Int} : (Thm.eNorm (Thm.eRaw s p d)).ch = s.ch := by
  unfold Thm.eNorm
  split
  · exact Thm.eRaw_ch
  · exact Thm.eRaw_ch
def spEcode (K : PySem.W.Frag) : Sp := fun vs H Q _ => ∃ (a ca : Addr) (s : Thm.ES) (c d : Int), vs = [.ref a, .int c, .int d] ∧ EAt K H a ca s ∧ Thm.EOk s ∧ Thm.DcOk (some c, d) ∧
  ∀ H', EAt K H' a ca (Thm.eStep s (some c, d)) → Frm a ca H H' → Q .non H'
theorem scEcode : FnScope ["self", "context", "decision", "chance"] ["self", "context", "decision"] (defScope sEcode) := ⟨rfl, rfl, rfl, by decide +kernel, rfl, by decide +kernel, by decide +kernel⟩
theorem okEcode {f : Addr} {fd : FuncData} (F : Fun K "code" "Encoder.code" sEcode f fd) (T : Txt K mg) (cCx : C8.Cal P w K mg base 1 "check_context" spCcx []) (cDe : C8.Cal P w K mg base 1 "check_decision" spCde [])
    (cAd : C8.Cal P w K mg base 1 "adapted" spAda []) (mSt : C8.Met P w K mg base 1 (cE K) "step" (spEstep K) []) : FnOk P w K mg base CX0 2 f fd ["self", "context", "decision"] (spEcode K) := by
  refine F.ok scEcode (fun vs H Q E h => ?_) (fun cdv A outer s H vs Q E hr h => ?_)
  · obtain ⟨a, ca, s, c, d, rfl, _⟩ := h
    rfl
  · obtain ⟨a, ca, s, c, d, rfl, R, ok, dok, k⟩ := h
    obtain ⟨dx, ob⟩ := R.ob
    have nac := R.ne
    obtain ⟨c0, c1⟩ := dok.ctx c rfl
    refine ⟨_, pss_cons (ps_expr (C8.pe_c cCx hr (by decide) rfl (pa_cons (pv 1) pa_nil))) (pss_cons (ps_expr (C8.pe_c cDe hr (by decide) rfl (pa_cons (pv 2) pa_nil)))
      (pss_cons (ps_set (i := 3) scEcode.nd rfl (Or.inl rfl) (pe_ix ix_list (pe_fld (pv 0) rfl) (pv 1) (fun _ _ => rfl)))
      (pss_cons (ps_expr (C8.pe_mt mSt hr (by decide) (pv 0) (pa_cons (pv 3) (pa_cons (pv 2) pa_nil))))
      (pss_one (ps_asg (C8.pe_c cAd hr (by decide) rfl (pa_cons (pv 3) (pa_cons (pv 2) pa_nil))) (pg_sub (pe_fld (pv 0) rfl) (pv 1) set_list)))))), ?_⟩
    refine ⟨_, rfl, c, rfl, c0, c1, _, rfl, d, rfl, dok.bit, ?_⟩
    refine ⟨_, rfl, a, _, dx, _, _, rfl, ob, T.clE, T.nEc, e_ch, _, rfl, ca, _, c, _, rfl, rfl, SqL.of R.ch, at_ch ok.c c0 c1, ?_⟩
    refine ⟨_, rfl, a, dx, _, rfl, ob, rfl, _, rfl, _, rfl, a, ca, s, _, d, rfl, R, ok, ok.c.pb _ (ok.c.get c0 c1), fun H1 R1 fr => ?_⟩
    obtain ⟨dx1, ob1⟩ := R1.ob
    have ch1 := R1.ch
    rw [norm_ch] at ch1
    refine ⟨_, rfl, _, rfl, _, d, rfl, ?_⟩
    refine ⟨_, rfl, a, _, dx1, _, _, rfl, ob1, T.clE, T.nEc, e_ch, _, rfl, ca, _, c, c.toNat, rfl, rfl, ch1, ix_ch ok.c c0 c1, ?_⟩
    refine k _ ⟨⟨dx1, ?_⟩, ?_⟩ (fr.trans Frm.at2)
    · rw [upd_ne nac]
      exact ob1
    · rw [upd_same]
      show some (HO.lst ((s.ch.map V.int).set c.toNat (V.int _))) = some (HO.lst ((Thm.upc s.ch (some c) d).map V.int))
      unfold Thm.upc
      rw [List.map_set]
def spEeven (K : PySem.W.Frag) : Sp := fun vs H Q _ => ∃ (a ca : Addr) (s : Thm.ES) (d : Int), vs = [.ref a, .int d] ∧ EAt K H a ca s ∧ Thm.EOk s ∧ (d = 0 ∨ d = 1) ∧
  ∀ H', EAt K H' a ca (Thm.eStep s (none, d)) → Frm a ca H H' → Q .non H'
theorem scEeven : FnScope ["self", "decision"] ["self", "decision"] (defScope sEeven) := ⟨rfl, rfl, rfl, by decide +kernel, rfl, by decide +kernel, by decide +kernel⟩
theorem okEeven {f : Addr} {fd : FuncData} (F : Fun K "code_even" "Encoder.code_even" sEeven f fd) (T : Txt K mg) (cDe : C8.Cal P w K mg base 1 "check_decision" spCde [])
    (mSt : C8.Met P w K mg base 1 (cE K) "step" (spEstep K) []) : FnOk P w K mg base CX0 2 f fd ["self", "decision"] (spEeven K) := by
  refine F.ok scEeven (fun vs H Q E h => ?_) (fun cdv A outer s H vs Q E hr h => ?_)
  · obtain ⟨a, ca, s, d, rfl, _⟩ := h
    rfl
  · obtain ⟨a, ca, s, d, rfl, R, ok, hd, k⟩ := h
    obtain ⟨dx, ob⟩ := R.ob
    refine ⟨_, pss_cons (ps_expr (C8.pe_c cDe hr (by decide) rfl (pa_cons (pv 1) pa_nil)))
      (pss_one (ps_expr (C8.pe_mt mSt hr (by decide) (pv 0) (pa_cons (pe_gi T.evn) (pa_cons (pv 1) pa_nil))))), ?_⟩
    refine ⟨_, rfl, d, rfl, hd, ?_⟩
    refine ⟨_, rfl, a, dx, _, rfl, ob, rfl, _, rfl, a, ca, s, _, d, rfl, R, ok, ⟨by decide, by decide⟩, fun H1 R1 fr => k _ ⟨R1.ob, ?_⟩ fr⟩
    have ch1 := R1.ch
    rw [norm_ch] at ch1
    exact ch1
/-! ### Encoder.octets -/
def spEocts (K : PySem.W.Frag) : Sp := fun vs H Q _ => ∃ (a ca : Addr) (s : Thm.ES), vs = [.ref a] ∧ EAt K H a ca s ∧ s.sh ≤ 100000 ∧
  ∀ p H', H p = none → Same H H' → H' p = some (.lst ((Thm.octs s).map V.int)) → Q (.ref p) H'
theorem scEocts : FnScope ["self", "rest", "octets", "_"] ["self"] (defScope sEocts) := ⟨rfl, rfl, rfl, by decide +kernel, rfl, by decide +kernel, by decide +kernel⟩
theorem same_upd {H H' : Hp} {p : Addr} {o : HO} (h : Same H H') (hp : H p = none) : Same H (upd H' p o) := fun b u e => by
  rw [upd_ne (ne_of_none e hp)]
  exact h b u e
theorem octL_step {r : Int} {n i : Nat} (h : i < n) : Thm.octL r (n - i) = r % 256 :: Thm.octL (r / 256) (n - (i + 1)) := by
  have e : n - i = n - (i + 1) + 1 := by omega
  rw [e, Thm.octL]
theorem okEocts {f : Addr} {fd : FuncData} (F : Fun K "octets" "Encoder.octets" sEocts f fd) (T : Txt K mg) : FnOk P w K mg base CX0 1 f fd ["self"] (spEocts K) := by
  refine F.ok scEocts (fun vs H Q E h => ?_) (fun cdv A outer s H vs Q E hr h => ?_)
  · obtain ⟨a, ca, s, rfl, _⟩ := h
    rfl
  · obtain ⟨a, ca, s, rfl, R, hsh, k⟩ := h
    obtain ⟨dx, ob⟩ := R.ob
    refine ⟨_, pss_cons (ps_set (i := 1) scEocts.nd rfl (Or.inl rfl) (pe_fld (pv 0) rfl)) (pss_cons (ps_set (i := 2) scEocts.nd rfl (Or.inl rfl) (pe_lst pa_nil))
      (pss_cons (ps_for PassesOwn.never rfl (pi_range1 rfl T.range (pa_cons (pe_op op_add (pe_fld (pv 0) rfl) pe_int) pa_nil)) (pg_name (i := 3) scEocts.nd rfl (Or.inl rfl))
        (pss_cons (ps_expr (pe_bm PySem.F.plainAttrs_list PySem.F.slot_list_append PySem.F.type_list_append mt_append (pv 2) (pa_cons (pe_op op_andM (pv 1) pe_int) pa_nil)))
        (pss_one (ps_set (i := 1) scEocts.nd rfl (Or.inl rfl) (pe_op op_shr (pv 1) pe_int)))))
      (pss_cons (ps_expr (pe_bm0 PySem.F.plainAttrs_list PySem.F.slot_list_reverse PySem.F.type_list_reverse mt_reverse (pv 2)))
      (pss_cons (ps_while PassesOwn.never (PW.pt (pw_and (pt_truth (pv 2) (by intro _; rfl)) (pw_and1 (pt_cmpR op_eq (pe_ix ix_list (pv 2) (pe_un un_neg pe_int) (fun _ _ => rfl)) pe_int (nomark _)))))
        (pss_one (ps_expr (pe_bm0 PySem.F.plainAttrs_list PySem.F.slot_list_pop PySem.F.type_list_pop mt_pop (pv 2)))))
      (pss_one (ps_ret (pv 2))))))), ?_⟩
    refine ⟨_, rfl, a, _, dx, _, _, rfl, ob, T.clE, T.nEl, e_low, ?_⟩
    refine ⟨Nat.zero_le _, fun p hp => ?_⟩
    have nap : a ≠ p := ne_of_none ob hp
    refine ⟨_, rfl, a, _, dx, _, _, rfl, (by rw [upd_ne nap]; exact ob), T.clE, T.nEh, e_sh, _, _, rfl, rfl, _, rfl, (by omega), (by omega), ?_⟩
    have en : ((s.sh : Int) + 4).toNat = s.sh + 4 := by omega
    rw [en]
    refine for_range (n := s.sh + 4) (fun i σ H' => ∃ (r : Int) (acc : List Int) (v : Option V), σ = [some (.ref a), some (.int r), some (.ref p), v] ∧ H' p = some (.lst (acc.map V.int)) ∧ acc ++ Thm.octL r (s.sh + 4 - i) = Thm.octL s.low (s.sh + 4) ∧ acc.length = i ∧ Same H H')
      ⟨s.low, [], none, rfl, upd_same, rfl, rfl, same_upd (Same.refl H) hp⟩ ?_ ?_
    · rintro i σ H' hi ⟨r, acc, v, rfl, hL, he, hl, sm⟩
      refine ⟨_, rfl, .inl ⟨rfl, _, SqL.of hL⟩, _, rfl, r, 8, rfl, rfl, p, _, _, rfl, rfl, hL, (by rw [List.length_map, hl]; exact Nat.lt_of_lt_of_le (show i < 200000 by omega) (by decide)), ?_⟩
      refine ⟨_, rfl, _, _, rfl, rfl, (by show (0 : Int) ≤ 8; decide), ?_⟩
      refine ⟨r / 256, acc ++ [r % 256], _, rfl, ?_, ?_, ?_, same_upd sm hp⟩
      · rw [upd_same, List.map_append]
        rfl
      · rw [octL_step hi] at he
        rw [List.append_assoc]
        exact he
      · rw [List.length_append, hl]
        rfl
    · rintro σ H' ⟨r, acc, v, rfl, hL, he, hl, sm⟩
      rw [Nat.sub_self] at he
      have he2 : acc = Thm.octL s.low (s.sh + 4) := by
        rw [← he]
        exact (List.append_nil acc).symm
      refine ⟨_, rfl, .inl ⟨rfl, _, SqL.of hL⟩, p, _, rfl, rfl, hL, ?_⟩
      refine ⟨fun m σ2 H2 => ∃ (l : List Int) (v : Option V) (r : Int), m = l.length ∧ σ2 = [some (.ref a), some (.int r), some (.ref p), v] ∧ H2 p = some (.lst (l.reverse.map V.int)) ∧ Thm.lopz l = Thm.lopz acc ∧ Same H H2,
        ⟨acc.length, acc, v, r, rfl, rfl, by rw [upd_same, List.map_reverse], rfl, same_upd sm hp⟩, ?_⟩
      rintro m σ2 H2 ⟨l, v2, r2, rfl, rfl, hL2, hz, sm2⟩
      have fin : ∀ l', Thm.lopz l' = l' → l = l' → tRet (tVar 2) { nx := fun _ H' => Q .non H', rt := Q } [some (V.ref a), some (.int r2), some (.ref p), v2] H2 := by
        intro l' z e
        refine ⟨_, rfl, k p H2 hp sm2 ?_⟩
        rw [hL2]
        unfold Thm.octs
        rw [← he2, ← hz, e, z]
      cases l with
      | nil =>
        refine ⟨_, rfl, false, .inl ⟨_, SqL.of hL2, rfl⟩, iteF ?_⟩
        exact fin [] rfl rfl
      | cons x rest =>
        have hL3 : H2 p = some (.lst (rest.reverse.map V.int ++ [V.int x])) := by
          rw [hL2, List.reverse_cons, List.map_append]
          rfl
        refine ⟨_, rfl, true, .inl ⟨_, SqL.of hL3, by simp⟩, iteT ?_⟩
        refine ⟨_, rfl, _, rfl, p, _, _, _, rfl, rfl, SqL.of hL3, atI_last _ _, rfl, _, rfl, iteE (fun e => ?_) (fun e => ?_)⟩
        · refine ⟨fun σ3 H3 => σ3 = [some (.ref a), some (.int r2), some (.ref p), v2] ∧ H3 = upd H2 p (.lst (rest.reverse.map V.int)), ?_, ?_⟩
          · rintro σ3 H3 ⟨rfl, rfl⟩
            refine ⟨rest.length, Nat.lt_succ_self _, rest, v2, r2, rfl, rfl, upd_same, ?_, same_upd sm2 hp⟩
            rw [← hz, Thm.lopz, if_pos e]
          · refine ⟨_, rfl, .inl ⟨rfl, _, SqL.of hL3⟩, p, _, V.int x, rfl, rfl, hL3, (by simp), rfl, ?_⟩
            rw [List.dropLast_concat]
        · refine fin (x :: rest) ?_ rfl
          rw [Thm.lopz, if_neg e]
end
end Th
namespace Th
open PySem PySem.Spec PyProof.Rows L2
section
variable {P : Program} {w : World} {K : PySem.W.Frag} {mg : Str → Option Value} {base : Heap}
/-! ### Decoder.following -/
def spFoll (K : PySem.W.Frag) : Sp := fun vs H Q _ => ∃ (a dx : Addr) (fs : List (Str × V)) (sa : Addr) (src : List Int) (n : Nat), vs = [.ref a] ∧ H a = some (.ins (cD K) dx fs) ∧ fs.lookup ("source" : Str) = some (.ref sa) ∧
  fs.lookup ("place" : Str) = some (.int (n : Int)) ∧ fs.length < 1000 ∧ H sa = some (.lst (src.map V.int)) ∧ Q (.int (Thm.oct src n)) (upd H a (.ins (cD K) dx (putF "place" (.int ((n : Int) + 1)) fs)))
theorem scFoll : FnScope ["self", "octet"] ["self"] (defScope sDfoll) := ⟨rfl, rfl, rfl, by decide +kernel, rfl, by decide +kernel, by decide +kernel⟩
theorem okFoll {f : Addr} {fd : FuncData} (F : Fun K "following" "Decoder.following" sDfoll f fd) (T : Txt K mg) : FnOk P w K mg base CX0 1 f fd ["self"] (spFoll K) := by
  refine F.ok scFoll (fun vs H Q E h => ?_) (fun cdv A outer s H vs Q E hr h => ?_)
  · obtain ⟨a, dx, fs, sa, src, n, rfl, _⟩ := h
    rfl
  · obtain ⟨a, dx, fs, sa, src, n, rfl, ob, ls, lp, lf, hs, k⟩ := h
    refine ⟨_, pss_cons (ps_set (i := 1) scFoll.nd rfl (Or.inl rfl) (pe_ifExp (pt_cmpR op_lt (pe_fld (pv 0) rfl) (pe_callB call_len_seq (by rfl) T.len PySem.boot_len (pa_cons (pe_fld (pv 0) rfl) pa_nil)) (nomark _))
        (pe_ix ix_list (pe_fld (pv 0) rfl) (pe_fld (pv 0) rfl) (fun _ _ => rfl)) pe_int))
      (pss_cons (ps_fldaug (pv 0) pe_int in_add) (pss_one (ps_ret (pv 1)))), ?_⟩
    refine ⟨_, rfl, a, _, dx, _, _, rfl, ob, T.clD, T.nDp, lp, _, rfl, a, _, dx, _, _, rfl, ob, T.clD, T.nDs, ls, sa, _, rfl, .inl (SqL.of hs), _, _, rfl, rfl, _, rfl, iteB (fun hlt => ?_) (fun hge => ?_)⟩
    · have hl : n < src.length := by
        rw [List.length_map] at hlt
        omega
      have e : Thm.oct src n = src[n] := by
        unfold Thm.oct
        rw [List.getD_eq_getElem?_getD, List.getElem?_eq_getElem hl]
        rfl
      refine ⟨_, rfl, a, _, dx, _, _, rfl, ob, T.clD, T.nDs, ls, _, rfl, a, _, dx, _, _, rfl, ob, T.clD, T.nDp, lp, sa, _, (n : Int), V.int src[n], rfl, rfl, SqL.of hs, atI_nat (by rw [List.getElem?_map, List.getElem?_eq_getElem hl]; rfl), ?_⟩
      refine ⟨_, rfl, a, _, dx, _, _, rfl, ob, T.clD, T.nDp, lp, _, _, rfl, rfl, dx, fs, ob, lf, _, rfl, ?_⟩
      rw [← e]
      exact k
    · have e : Thm.oct src n = 0 := by
        rw [List.length_map] at hge
        unfold Thm.oct
        rw [List.getD_eq_getElem?_getD, List.getElem?_eq_none (by omega)]
        rfl
      refine ⟨_, rfl, a, _, dx, _, _, rfl, ob, T.clD, T.nDp, lp, _, _, rfl, rfl, dx, fs, ob, lf, _, rfl, ?_⟩
      rw [← e]
      exact k
/-! ### Decoder.__init__ -/
def vP (src : List Int) : Nat → Int
  | 0 => 0
  | i + 1 => 256 * vP src i + Thm.oct src i
def df4 (ca sa : Addr) (place : Nat) : List (Str × V) := [("chances", .ref ca), ("source", .ref sa), ("place", .int (place : Int)), ("span", .int 4294967295)]
theorem d4_init (ca sa : Addr) : putF "span" (.int 4294967295) (putF "place" (.int 0) (putF "source" (.ref sa) (putF "chances" (.ref ca) []))) = df4 ca sa 0 := by
  simp only [putF, k_co, k_cp, k_op, k_cs, k_os, k_ps, if_false]
  rfl
theorem d4_place (ca sa : Addr) (n : Nat) : putF "place" (.int ((n : Int) + 1)) (df4 ca sa n) = df4 ca sa (n + 1) := by
  show putF _ _ [_, _, _, _] = _
  simp only [putF, k_cp, k_op, if_false, if_true]
  rfl
theorem d4_value (ca sa : Addr) (n : Nat) (v : Int) : putF "value" (.int v) (df4 ca sa n) = dfl ca sa n 4294967295 v := by
  show putF _ _ [_, _, _, _] = _
  simp only [putF, k_cv, k_ov, k_pv, k_sv, if_false]
  rfl
def spDinit (K : PySem.W.Frag) : Sp := fun vs H Q _ => ∃ (a dx l : Addr) (src : List Int), vs = [.ref a, .ref l] ∧ H a = some (.ins (cD K) dx []) ∧ H l = some (.lst (src.map V.int)) ∧
  ∀ (ca sa : Addr) (H' : Hp), H ca = none → H sa = none → DAt K H' a ca sa (Thm.d0 src) → (∀ b o, H b = some o → b ≠ a → H' b = some o) → Q .non H'
theorem scDinit : FnScope ["self", "octets", "value", "_"] ["self", "octets"] (defScope sDinit) := ⟨rfl, rfl, rfl, by decide +kernel, rfl, by decide +kernel, by decide +kernel⟩
theorem okDinit {f : Addr} {fd : FuncData} (F : Fun K "__init__" "Decoder.__init__" sDinit f fd) (T : Txt K mg) (mFo : C8.Met P w K mg base 1 (cD K) "following" (spFoll K) []) : FnOk P w K mg base CX0 2 f fd ["self", "octets"] (spDinit K) := by
  refine F.ok scDinit (fun vs H Q E h => ?_) (fun cdv A outer s H vs Q E hr h => ?_)
  · obtain ⟨a, dx, l, src, rfl, _⟩ := h
    rfl
  · obtain ⟨a, dx, l, src, rfl, ha, hl, k⟩ := h
    refine ⟨_, pss_cons (ps_fld (pv 0) (pe_op op_rep (pe_lst (pa_cons (pe_gi T.evn) pa_nil)) (pe_gi T.ctxs)) rfl)
      (pss_cons (ps_fld (pv 0) (pe_callTy call_list_of (by rfl) T.list (by decide +kernel) (pa_cons (pv 1) pa_nil)) rfl) (pss_cons (ps_fld (pv 0) pe_int rfl) (pss_cons (ps_fld (pv 0) (pe_gi T.full) rfl)
      (pss_cons (ps_set (i := 2) scDinit.nd rfl (Or.inl rfl) pe_int)
      (pss_cons (ps_for PassesOwn.never rfl (pi_range1 rfl T.range (pa_cons pe_int pa_nil)) (pg_name (i := 3) scDinit.nd rfl (Or.inl rfl))
        (pss_one (ps_set (i := 2) scDinit.nd rfl (Or.inl rfl) (pe_op op_add (pe_op op_mul pe_int (pv 2)) (C8.pe_mt0 mFo hr (by decide) (pv 0))))))
      (pss_one (ps_fld (pv 0) (pe_callB (call_min2 rfl) (by rfl) T.min (by decide +kernel) (pa_cons (pv 2) (pa_cons (pe_op op_sub (pe_gi T.full) pe_int) pa_nil))) rfl))))))), ?_⟩
    refine ⟨by decide, fun l0 hl0 => ⟨l0, _, _, rfl, rfl, upd_same, by decide, by decide, by decide, fun ca hca => ?_⟩⟩
    rw [rep_ch0]
    have nal : a ≠ l0 := ne_of_none ha hl0
    have nll : l ≠ l0 := ne_of_none hl hl0
    have nla : l ≠ a := ne_of hl ha (by intro z; cases z)
    have nac : a ≠ ca := ne_of_none (by rw [upd_ne nal]; exact ha) hca
    have nlc : l ≠ ca := ne_of_none (by rw [upd_ne nll]; exact hl) hca
    have nlc0 : l0 ≠ ca := ne_of_none upd_same hca
    have hca0 : H ca = none := by
      rw [upd_ne nlc0.symm] at hca
      exact hca
    refine ⟨_, rfl, a, _, dx, [], rfl, (by rw [upd_ne nac, upd_ne nal]; exact ha), T.clD, T.nDc, (by decide), ?_⟩
    refine ⟨_, rfl, l, src.map V.int, rfl, .inl (SqL.of (by rw [upd_ne nla, upd_ne nlc, upd_ne nll]; exact hl)), fun sa hsa => ?_⟩
    have nas : a ≠ sa := ne_of_none upd_same hsa
    have ncs : ca ≠ sa := ne_of_none (by rw [upd_ne nac.symm]; exact upd_same) hsa
    have nls : l0 ≠ sa := ne_of_none (by rw [upd_ne nal.symm, upd_ne nlc0]; exact upd_same) hsa
    have hsa0 : H sa = none := by
      rw [upd_ne nas.symm, upd_ne ncs.symm, upd_ne nls.symm] at hsa
      exact hsa
    refine ⟨_, rfl, a, _, dx, _, rfl, (by rw [upd_ne nas]; exact upd_same), T.clD, T.nDs, (by show 1 < 1000; decide), ?_⟩
    refine ⟨_, rfl, a, _, dx, _, rfl, upd_same, T.clD, T.nDp, (by show 2 < 1000; decide), ?_⟩
    refine ⟨_, rfl, a, _, dx, _, rfl, upd_same, T.clD, T.nDn, (by show 3 < 1000; decide), ?_⟩
    rw [d4_init, upd_upd, upd_upd]
    generalize hH1 : upd (upd (upd (upd H l0 (HO.lst [V.int 2048])) ca (HO.lst (Thm.ch0.map V.int))) a (HO.ins (cD K) dx (putF "chances" (V.ref ca) []))) sa (HO.lst (src.map V.int)) = H1
    have hsrc : H1 sa = some (.lst (src.map V.int)) := by rw [← hH1]; exact upd_same
    have hch : H1 ca = some (.lst (Thm.ch0.map V.int)) := by rw [← hH1, upd_ne ncs, upd_ne nac.symm]; exact upd_same
    have hfr : ∀ b o, H b = some o → b ≠ a → H1 b = some o := fun b o e hb => by
      rw [← hH1, upd_ne (ne_of_none e hsa0), upd_ne hb, upd_ne (ne_of_none e hca0), upd_ne (ne_of_none e hl0)]
      exact e
    refine ⟨4, rfl, by decide, by decide, for_range (n := 4) (fun i σ H' => ∃ v : Option V, σ = [some (.ref a), some (.ref l), some (.int (vP src i)), v] ∧ H' = upd H1 a (.ins (cD K) dx (df4 ca sa i))) ⟨none, rfl, rfl⟩ ?_ ?_⟩
    · rintro i σ H' hi ⟨v, rfl, rfl⟩
      refine ⟨_, rfl, _, _, rfl, rfl, .inl ⟨by decide, by decide⟩, _, rfl, a, dx, _, rfl, upd_same, rfl, a, dx, _, sa, src, i, rfl, upd_same, rfl, rfl, (by show 4 < 1000; decide), (by rw [upd_ne nas.symm]; exact hsrc), ?_⟩
      rw [d4_place, upd_upd]
      exact ⟨_, _, rfl, rfl, _, rfl, rfl⟩
    · rintro σ H' ⟨v, rfl, rfl⟩
      refine ⟨_, rfl, _, _, rfl, rfl, _, _, rfl, _, rfl, a, _, dx, _, rfl, upd_same, T.clD, T.nDv, (by show 4 < 1000; decide), ?_⟩
      rw [d4_value, upd_upd]
      have ev : (if (4294967295 : Int) - 1 < vP src 4 then (4294967295 : Int) - 1 else vP src 4) = (Thm.d0 src).value := by
        show (if (4294967295 : Int) - 1 < Thm.v4 src then (4294967295 : Int) - 1 else Thm.v4 src) = if Thm.v4 src < 4294967294 then Thm.v4 src else 4294967294
        generalize Thm.v4 src = x
        split <;> split <;> omega
      rw [ev]
      refine k ca sa _ hca0 hsa0 ⟨⟨dx, upd_same⟩, by rw [upd_ne nac.symm]; exact hch, by rw [upd_ne nas.symm]; exact hsrc, ncs⟩ fun b o e hb => ?_
      rw [upd_ne hb]
      exact hfr b o e hb
end
end Th
namespace Th
open PySem PySem.Spec PyProof.Rows L2
section
variable {P : Program} {w : World} {K : PySem.W.Frag} {mg : Str → Option Value} {base : Heap}
/-! ### Decoder.step -/
theorem dnorm_ge {t : Thm.DS} (h : ¬ t.span < 16777216) : Thm.dNorm t = t := if_neg h
theorem dnorm_lt {t : Thm.DS} (h : t.span < 16777216) : Thm.dNorm t = { t with value := 256 * t.value + Thm.oct t.src t.place, place := t.place + 1, span := t.span * 256 } := if_pos h
def tDW (K : PySem.W.Frag) : TS := tWhile (tTest (tOp (rI0 fun i j => .bl (decide (i < j))) (tFld K (tVar 0) "span") (tC (.int 16777216))))
  (tSeq (sFld K (tVar 0) (tOp (rI0 fun i j => .int (i + j)) (tOp (rI CMul fun i j => .int (i * j)) (tC (.int 256)) (tFld K (tVar 0) "value")) (tMeth (cD K) "following" (spFoll K) [] E0 (tVar 0) tNil)) "value")
  (sFld K (tVar 0) (tOp (rI CMul fun i j => .int (i * j)) (tFld K (tVar 0) "span") (tC (.int 256))) "span"))
theorem rdDW (T : Txt K mg) {a ca sa : Addr} {s : Thm.DS} {D : Ends} {σ : L2.St} {H : Hp} (hσ : σ[0]? = some (some (.ref a))) (R : DAt K H a ca sa s) (h1 : 65536 ≤ s.span)
    (k : ∀ H', DAt K H' a ca sa (Thm.dNorm s) → Frm a ca H H' → D.nx σ H') : tDW K D σ H := by
  refine ⟨fun m σ' H' => σ' = σ ∧ ∃ s', DAt K H' a ca sa s' ∧ Frm a ca H H' ∧ Thm.dNorm s' = Thm.dNorm s ∧ 65536 ≤ s'.span ∧ (m = 0 → ¬ s'.span < 16777216), ⟨1, rfl, s, R, Frm.refl H, rfl, h1, by intro z; cases z⟩, ?_⟩
  rintro m σ' H' ⟨rfl, s', R', fr, en, hs, hm⟩
  obtain ⟨dx, ob⟩ := R'.ob
  have nac := R'.ne
  have nas := R'.ne2
  refine ⟨_, hσ, a, _, dx, _, _, rfl, ob, T.clD, T.nDn, d_span, _, _, rfl, rfl, _, rfl, iteB (fun hlt => ?_) (fun hge => ?_)⟩
  · refine ⟨fun σ2 H2 => σ2 = σ' ∧ ∃ s'', DAt K H2 a ca sa s'' ∧ Frm a ca H H2 ∧ Thm.dNorm s'' = Thm.dNorm s ∧ 65536 ≤ s''.span ∧ ¬ s''.span < 16777216, ?_, ?_⟩
    · rintro σ2 H2 ⟨rfl, s'', q1, q2, q3, q4, q5⟩
      refine ⟨0, ?_, rfl, s'', q1, q2, q3, q4, fun _ => q5⟩
      cases m with
      | zero => exact absurd hlt (hm rfl)
      | succ n => exact Nat.succ_pos n
    · refine ⟨_, hσ, a, _, dx, _, _, rfl, ob, T.clD, T.nDv, d_value, _, _, rfl, rfl, .inl ⟨by decide, by decide⟩, _, hσ, a, dx, _, rfl, ob, rfl, a, dx, _, sa, s'.src, s'.place, rfl, ob, d_src, d_place, (by show 5 < 1000; decide), R'.sr, ?_⟩
      rw [d_pplace]
      refine ⟨_, _, rfl, rfl, _, hσ, a, _, dx, _, rfl, upd_same, T.clD, T.nDv, (by show 5 < 1000; decide), ?_⟩
      rw [d_pvalue, upd_upd]
      refine ⟨_, hσ, a, _, dx, _, _, rfl, upd_same, T.clD, T.nDn, d_span, _, _, rfl, rfl, .inr ⟨by decide, by decide⟩, _, hσ, a, _, dx, _, rfl, upd_same, T.clD, T.nDn, (by show 5 < 1000; decide), ?_⟩
      rw [d_pspan, upd_upd]
      refine ⟨rfl, { s' with value := 256 * s'.value + Thm.oct s'.src s'.place, place := s'.place + 1, span := s'.span * 256 }, ⟨⟨dx, upd_same⟩, by rw [upd_ne nac.symm]; exact R'.ch, by rw [upd_ne nas.symm]; exact R'.sr, R'.ns⟩, fr.trans Frm.at1, ?_, ?_, ?_⟩
      · rw [← en, dnorm_lt hlt]
        refine dnorm_ge ?_
        show ¬ s'.span * 256 < 16777216
        omega
      · show 65536 ≤ s'.span * 256
        omega
      · show ¬ s'.span * 256 < 16777216
        omega
  · rw [dnorm_ge hge] at en
    refine k H' ?_ fr
    rw [← en]
    exact R'
def spDstep (K : PySem.W.Frag) : Sp := fun vs H Q _ => ∃ (a ca sa : Addr) (t : Thm.DS) (p : Int), vs = [.ref a, .int p] ∧ DAt K H a ca sa t ∧ Thm.DOk t ∧ (31 ≤ p ∧ p ≤ 4065) ∧
  ∀ H', DAt K H' a ca sa (Thm.dNorm (Thm.dRaw t p)) → Frm a ca H H' → Q (.int (Thm.dBit t p)) H'
theorem scDstep : FnScope ["self", "probability", "part", "decision"] ["self", "probability"] (defScope sDstep) := ⟨rfl, rfl, rfl, by decide +kernel, rfl, by decide +kernel, by decide +kernel⟩
theorem okDstep {f : Addr} {fd : FuncData} (F : Fun K "step" "Decoder.step" sDstep f fd) (T : Txt K mg) (mFo : C8.Met P w K mg base 1 (cD K) "following" (spFoll K) []) : FnOk P w K mg base CX0 2 f fd ["self", "probability"] (spDstep K) := by
  refine F.ok scDstep (fun vs H Q E h => ?_) (fun cdv A outer s H vs Q E hr h => ?_)
  · obtain ⟨a, ca, sa, t, p, rfl, _⟩ := h
    rfl
  · obtain ⟨a, ca, sa, t, p, rfl, R, ok, hp, k⟩ := h
    obtain ⟨dx, ob⟩ := R.ob
    have nac := R.ne
    have nas := R.ne2
    refine ⟨_, pss_cons (ps_set (i := 2) scDstep.nd rfl (Or.inl rfl) (pe_op op_mul (pe_op op_shr (pe_fld (pv 0) rfl) pe_int) (pv 1)))
      (pss_cons (ps_set (i := 3) scDstep.nd rfl (Or.inl rfl) pe_int)
      (pss_cons (ps_if (pt_cmpR op_lt (pe_fld (pv 0) rfl) (pv 2) (nomark _)) (pss_one (ps_fld (pv 0) (pv 2) rfl))
        (pss_cons (ps_set (i := 3) scDstep.nd rfl (Or.inl rfl) pe_int) (pss_cons (ps_fldaug (pv 0) (pv 2) in_sub) (pss_one (ps_fldaug (pv 0) (pv 2) in_sub)))))
      (pss_cons (ps_while PassesOwn.never (pt_cmpR op_lt (pe_fld (pv 0) rfl) (pe_gi T.least) (nomark _))
        (pss_cons (ps_fld (pv 0) (pe_op op_add (pe_op op_mul pe_int (pe_fld (pv 0) rfl)) (C8.pe_mt0 mFo hr (by decide) (pv 0))) rfl) (pss_one (ps_fld (pv 0) (pe_op op_mul (pe_fld (pv 0) rfl) pe_int) rfl))))
      (pss_one (ps_ret (pv 3)))))), ?_⟩
    have hspan := (Thm.dRaw_ok ok hp).1
    refine ⟨_, rfl, a, _, dx, _, _, rfl, ob, T.clD, T.nDn, d_span, _, _, rfl, rfl, (by show (0 : Int) ≤ 12; decide), _, rfl, _, _, rfl, rfl, .inr ⟨by omega, by omega⟩, ?_⟩
    refine ⟨_, rfl, a, _, dx, _, _, rfl, ob, T.clD, T.nDv, d_value, _, rfl, _, _, rfl, rfl, _, rfl, iteB (fun e => ?_) (fun e => ?_)⟩
    · have e2 : t.value < t.span / 4096 * p := e
      have er : Thm.dRaw t p = { t with span := t.span / 4096 * p } := by
        unfold Thm.dRaw
        rw [if_pos e2]
      have eb : Thm.dBit t p = 0 := by
        unfold Thm.dBit
        rw [if_pos e2]
      rw [er] at k hspan
      rw [eb] at k
      refine ⟨_, rfl, _, rfl, a, _, dx, _, rfl, ob, T.clD, T.nDn, (by show 5 < 1000; decide), ?_⟩
      refine rdDW T (ca := ca) (sa := sa) rfl ⟨⟨dx, Eq.trans upd_same (congrArg (fun l => some (HO.ins (cD K) dx l)) d_pspan)⟩, by rw [upd_ne nac.symm]; exact R.ch, by rw [upd_ne nas.symm]; exact R.sr, R.ns⟩ hspan fun H' R' fr => ⟨_, rfl, k H' R' (Frm.trans Frm.at1 fr)⟩
    · have e2 : ¬ t.value < t.span / 4096 * p := e
      have er : Thm.dRaw t p = { t with value := t.value - t.span / 4096 * p, span := t.span - t.span / 4096 * p } := by
        unfold Thm.dRaw
        rw [if_neg e2]
      have eb : Thm.dBit t p = 1 := by
        unfold Thm.dBit
        rw [if_neg e2]
      rw [er] at k hspan
      rw [eb] at k
      refine ⟨_, rfl, a, _, dx, _, _, rfl, ob, T.clD, T.nDv, d_value, _, rfl, _, _, rfl, rfl, dx, _, ob, (by show 5 < 1000; decide), ?_⟩
      rw [d_pvalue]
      refine ⟨_, rfl, a, _, dx, _, _, rfl, upd_same, T.clD, T.nDn, d_span, _, rfl, _, _, rfl, rfl, dx, _, upd_same, (by show 5 < 1000; decide), ?_⟩
      rw [d_pspan, upd_upd]
      refine rdDW T (ca := ca) (sa := sa) rfl ⟨⟨dx, upd_same⟩, by rw [upd_ne nac.symm]; exact R.ch, by rw [upd_ne nas.symm]; exact R.sr, R.ns⟩ hspan fun H' R' fr => ⟨_, rfl, k H' R' (Frm.trans Frm.at1 fr)⟩
/-! ### what is still to be read: a decoder whose next decisions are D -/
def RAt (K : PySem.W.Frag) (H : Hp) (a ca : Addr) (D : List Thm.Dc) : Prop := ∃ sa t, DAt K H a ca sa t ∧ Thm.DOk t ∧ Thm.Pend t D
theorem dnorm_ch {t : Thm.DS} {p : Int} : (Thm.dNorm (Thm.dRaw t p)).ch = t.ch := by
  have h : (Thm.dRaw t p).ch = t.ch := by
    unfold Thm.dRaw
    split <;> rfl
  unfold Thm.dNorm
  split
  · exact h
  · exact h
/-! ### Decoder.read, Decoder.read_even -/
def spDread (K : PySem.W.Frag) : Sp := fun vs H Q _ => ∃ (a ca : Addr) (c d : Int) (D : List Thm.Dc), vs = [.ref a, .int c] ∧ RAt K H a ca ((some c, d) :: D) ∧ (0 ≤ c ∧ c < 256) ∧
  ∀ H', RAt K H' a ca D → Frm a ca H H' → Q (.int d) H'
theorem scDread : FnScope ["self", "context", "chance", "decision"] ["self", "context"] (defScope sDread) := ⟨rfl, rfl, rfl, by decide +kernel, rfl, by decide +kernel, by decide +kernel⟩
theorem okDread {f : Addr} {fd : FuncData} (F : Fun K "read" "Decoder.read" sDread f fd) (T : Txt K mg) (cCx : C8.Cal P w K mg base 1 "check_context" spCcx [])
    (cAd : C8.Cal P w K mg base 1 "adapted" spAda []) (mSt : C8.Met P w K mg base 2 (cD K) "step" (spDstep K) []) : FnOk P w K mg base CX0 3 f fd ["self", "context"] (spDread K) := by
  refine F.ok scDread (fun vs H Q E h => ?_) (fun cdv A outer s H vs Q E hr h => ?_)
  · obtain ⟨a, ca, c, d, D, rfl, _⟩ := h
    rfl
  · obtain ⟨a, ca, c, d, D, rfl, ⟨sa, t, R, ok, pend⟩, ⟨c0, c1⟩, k⟩ := h
    obtain ⟨dx, ob⟩ := R.ob
    have nac := R.ne
    obtain ⟨eb, pend2⟩ := Thm.pend_cons pend
    refine ⟨_, pss_cons (ps_expr (C8.pe_c cCx hr (by decide) rfl (pa_cons (pv 1) pa_nil)))
      (pss_cons (ps_set (i := 2) scDread.nd rfl (Or.inl rfl) (pe_ix ix_list (pe_fld (pv 0) rfl) (pv 1) (fun _ _ => rfl)))
      (pss_cons (ps_set (i := 3) scDread.nd rfl (Or.inl rfl) (C8.pe_mt mSt hr (by decide) (pv 0) (pa_cons (pv 2) pa_nil)))
      (pss_cons (ps_asg (C8.pe_c cAd hr (by decide) rfl (pa_cons (pv 2) (pa_cons (pv 3) pa_nil))) (pg_sub (pe_fld (pv 0) rfl) (pv 1) set_list))
      (pss_one (ps_ret (pv 3)))))), ?_⟩
    refine ⟨_, rfl, c, rfl, c0, c1, ?_⟩
    refine ⟨_, rfl, a, _, dx, _, _, rfl, ob, T.clD, T.nDc, d_ch, _, rfl, ca, _, c, _, rfl, rfl, SqL.of R.ch, at_ch ok.c c0 c1, ?_⟩
    refine ⟨_, rfl, a, dx, _, rfl, ob, rfl, _, rfl, a, ca, sa, t, _, rfl, R, ok, ok.c.pb _ (ok.c.get c0 c1), fun H1 R1 fr => ?_⟩
    obtain ⟨dx1, ob1⟩ := R1.ob
    have ch1 := R1.ch
    rw [dnorm_ch] at ch1
    refine ⟨_, rfl, _, rfl, _, _, rfl, ?_⟩
    refine ⟨_, rfl, a, _, dx1, _, _, rfl, ob1, T.clD, T.nDc, d_ch, _, rfl, ca, _, c, c.toNat, rfl, rfl, ch1, ix_ch ok.c c0 c1, ?_⟩
    refine ⟨_, rfl, ?_⟩
    have e2 : Thm.dBit t (t.ch.getD c.toNat 0) = d := eb
    rw [e2]
    refine k _ ⟨sa, Thm.dStep t (some c), ⟨⟨dx1, ?_⟩, ?_, ?_, R.ns⟩, Thm.dStep_ok ok (fun i hi => ?_), pend2⟩ (fr.trans Frm.at2)
    · rw [upd_ne nac]
      exact ob1
    · rw [upd_same]
      show some (HO.lst ((t.ch.map V.int).set c.toNat (V.int _))) = some (HO.lst ((Thm.upc t.ch (some c) (Thm.dBit t (Thm.pr t.ch (some c)))).map V.int))
      rw [eb]
      unfold Thm.upc
      rw [List.map_set]
    · rw [upd_ne R.ns.symm]
      exact R1.sr
    · have hi2 : c = i := Option.some.inj hi
      omega
def spDeven (K : PySem.W.Frag) : Sp := fun vs H Q _ => ∃ (a ca : Addr) (d : Int) (D : List Thm.Dc), vs = [.ref a] ∧ RAt K H a ca ((none, d) :: D) ∧
  ∀ H', RAt K H' a ca D → Frm a ca H H' → Q (.int d) H'
theorem scDeven : FnScope ["self"] ["self"] (defScope sDeven) := ⟨rfl, rfl, rfl, by decide +kernel, rfl, by decide +kernel, by decide +kernel⟩
theorem okDeven {f : Addr} {fd : FuncData} (F : Fun K "read_even" "Decoder.read_even" sDeven f fd) (T : Txt K mg) (mSt : C8.Met P w K mg base 2 (cD K) "step" (spDstep K) []) : FnOk P w K mg base CX0 3 f fd ["self"] (spDeven K) := by
  refine F.ok scDeven (fun vs H Q E h => ?_) (fun cdv A outer s H vs Q E hr h => ?_)
  · obtain ⟨a, ca, d, D, rfl, _⟩ := h
    rfl
  · obtain ⟨a, ca, d, D, rfl, ⟨sa, t, R, ok, pend⟩, k⟩ := h
    obtain ⟨dx, ob⟩ := R.ob
    obtain ⟨eb, pend2⟩ := Thm.pend_cons pend
    refine ⟨_, pss_one (ps_ret (C8.pe_mt mSt hr (by decide) (pv 0) (pa_cons (pe_gi T.evn) pa_nil))), ?_⟩
    refine ⟨_, rfl, a, dx, _, rfl, ob, rfl, a, ca, sa, t, _, rfl, R, ok, ⟨by decide, by decide⟩, fun H1 R1 fr => ?_⟩
    have ch1 := R1.ch
    rw [dnorm_ch] at ch1
    have e2 : Thm.dBit t 2048 = d := eb
    rw [e2]
    refine k _ ⟨sa, Thm.dStep t none, ⟨R1.ob, ch1, R1.sr, R1.ns⟩, Thm.dStep_ok ok (fun i hi => by cases hi), pend2⟩ fr
end
end Th
namespace Th
open PySem PySem.Spec PyProof.Rows L2
/-! ### a method that is called with keywords -/
structure MetN (P : Program) (w : World) (K : PySem.W.Frag) (mg : Str → Option Value) (base : Heap) (k : Nat) (C : Addr) (m : Str) (sp : Sp) (n : Nat) (ks : List Str) : Prop where
  ex : ∃ (f : Addr) (fd : FuncData) (ps : List Str), Cls K C ∧ Meth K C m f ∧ FnOk P w K mg base CX0 k f fd ps sp ∧ KBn K fd ps n ks (fun us ws => us ++ ws) (fun vs zs => vs ++ zs)
theorem pe_mtN {X : Cx} {k j n : Nat} {C : Addr} {m : Str} {ks : List Str} {sp : Sp} {o e : Expr} {es : List Expr} {kws : List Keyword} {ta : TE} {t tk : TA} {apos pos : Pos} {pl : Sem Bool}
    (c : MetN X.prog X.w X.K X.mg X.base k C m sp n ks) (room : Room j X.A) (hk : k ≤ j) (ho : PE X o ta) (args : PA X (e :: es) t) (kwa : PK X kws tk)
    (named : (backToKw pos (keywordEach kws X.env)).all (·.1.isSome) = true := by rfl)
    (names : (backToKw pos (keywordEach kws X.env)).filterMap (·.1) = ks := by rfl)
    (first : starEach (e :: es) X.env = (false, eval e X.env) :: starEach es X.env := by rfl)
    (plain : ((backTo pos (starEach (e :: es) X.env)).any (·.1) || (backToKw pos (keywordEach kws X.env)).any (·.1.isNone)) = false := by rfl)
    (tree : eval (.Call (.Attribute o m apos) (e :: es) kws pos) X.env = (eval o X.env >>= fun ov => standAt apos.atName >>= fun _ => holding [ov] (getMethod ov m pl) >>= fun r =>
      callWith pos r.1 r.2 (backTo pos (starEach (e :: es) X.env)) (backToKw pos (keywordEach kws X.env))) := by rfl) :
    PE X (.Call (.Attribute o m apos) (e :: es) kws pos) (tMethN C m n ks.length sp (fun vs zs => vs ++ zs) E0 ta t tk) := by
  obtain ⟨f, fd, ps, hc, hm, F, kb⟩ := c.ex
  exact pe_methN ho hc hm F (room.mono hk) kb pass0 args kwa named names first plain tree
abbrev nb (i : Int) : Nat := Builtin.Int.intBits i
section
variable {P : Program} {w : World} {K : PySem.W.Frag} {mg : Str → Option Value} {base : Heap}
/-! ### check_contexts, check_choice, check_unary -/
def spCxs : Sp := fun vs H Q _ => ∃ b n : Int, vs = [.int b, .int n] ∧ 0 ≤ b ∧ b + n ≤ 256 ∧ Q .non H
theorem scCxs : FnScope ["base", "count"] ["base", "count"] (defScope sCxs) := ⟨rfl, rfl, rfl, by decide +kernel, rfl, by decide +kernel, by decide +kernel⟩
theorem okCxs {f : Addr} {fd : FuncData} (F : Fun K "check_contexts" "check_contexts" sCxs f fd) : FnOk P w K mg base CX0 1 f fd ["base", "count"] spCxs := by
  refine F.ok scCxs (fun vs H Q E h => ?_) (fun cdv A outer s H vs Q E hr h => ?_)
  · obtain ⟨b, n, rfl, _⟩ := h
    rfl
  · obtain ⟨b, n, rfl, h0, h1, k⟩ := h
    refine ⟨_, pss_one (ps_if (PW.pt (pw_or (pt_cmpR op_lt (pv 0) pe_int (nomark _)) (pw_or1 (pt_cmpR op_gt (pe_op op_add (pv 0) (pv 1)) pe_int (nomark _))))) (pss_one ps_never) pss_nil), ?_⟩
    refine ⟨_, rfl, _, _, rfl, rfl, _, rfl, iteB (fun h => absurd h (by omega)) (fun _ => ⟨_, rfl, _, rfl, _, _, rfl, rfl, _, _, rfl, rfl, _, rfl, ?_⟩)⟩
    exact iteB (fun h => absurd h (by omega)) (fun _ => k)
def spCch : Sp := fun vs H Q _ => ∃ (b c : Int) (n : Nat), vs = [.int b, .int c] ∧ (1 ≤ c ∧ c ≤ 16) ∧ n = nb (c - 1) ∧ n ≤ 4 ∧ (n = 0 ∨ (0 ≤ b ∧ b + 2 ^ n ≤ 257)) ∧ Q (.int (n : Int)) H
theorem scCch : FnScope ["base", "count", "digits"] ["base", "count"] (defScope sCch) := ⟨rfl, rfl, rfl, by decide +kernel, rfl, by decide +kernel, by decide +kernel⟩
theorem okCch {f : Addr} {fd : FuncData} (F : Fun K "check_choice" "check_choice" sCch f fd) (cXs : C8.Cal P w K mg base 1 "check_contexts" spCxs []) : FnOk P w K mg base CX0 2 f fd ["base", "count"] spCch := by
  refine F.ok scCch (fun vs H Q E h => ?_) (fun cdv A outer s H vs Q E hr h => ?_)
  · obtain ⟨b, c, n, rfl, _⟩ := h
    rfl
  · obtain ⟨b, c, n, rfl, hc, en, hn, hb, k⟩ := h
    refine ⟨_, pss_cons (ps_if (pt_not (pt_chain op_le op_le pe_int (pv 1) pe_int)) (pss_one ps_never) pss_nil)
      (pss_cons (ps_set (i := 2) scCch.nd rfl (Or.inl rfl) (pe_bits (pe_op op_sub (pv 1) pe_int)))
      (pss_cons (ps_if (pt_cmpR op_gt (pv 2) pe_int (nomark _)) (pss_one (ps_expr (C8.pe_c cXs hr (by decide) rfl (pa_cons (pv 0) (pa_cons (pe_op op_sub (pe_op op_oneShl pe_int (pv 2)) pe_int) pa_nil))))) pss_nil)
      (pss_one (ps_ret (pv 2))))), ?_⟩
    refine ⟨_, rfl, _, _, rfl, rfl, _, rfl, iteB (fun _ => ⟨_, _, rfl, rfl, _, rfl, ?_⟩) (fun h => absurd hc.1 h)⟩
    refine iteN (fun h => absurd hc.2 h) (fun _ => ?_)
    refine ⟨_, rfl, _, _, rfl, rfl, _, rfl, ?_⟩
    rw [show Builtin.Int.intBits (c - 1) = n from en.symm]
    refine ⟨_, rfl, _, _, rfl, rfl, _, rfl, iteB (fun h => ?_) (fun _ => ⟨_, rfl, k⟩)⟩
    rcases hb with e | ⟨b0, b1⟩
    · exact absurd h (by omega)
    · exact ⟨_, rfl, _, rfl, n, rfl, rfl, by omega, _, _, rfl, rfl, b, _, rfl, b0, by omega, _, rfl, k⟩
def spCun : Sp := fun vs H Q _ => ∃ b m : Int, vs = [.int b, .int m] ∧ (0 ≤ m ∧ m ≤ 64) ∧ Thm.UnCx b m ∧ Q .non H
theorem scCun : FnScope ["base", "most"] ["base", "most"] (defScope sCun) := ⟨rfl, rfl, rfl, by decide +kernel, rfl, by decide +kernel, by decide +kernel⟩
theorem okCun {f : Addr} {fd : FuncData} (F : Fun K "check_unary" "check_unary" sCun f fd) (T : Txt K mg) (cXs : C8.Cal P w K mg base 1 "check_contexts" spCxs []) : FnOk P w K mg base CX0 2 f fd ["base", "most"] spCun := by
  refine F.ok scCun (fun vs H Q E h => ?_) (fun cdv A outer s H vs Q E hr h => ?_)
  · obtain ⟨b, m, rfl, _⟩ := h
    rfl
  · obtain ⟨b, m, rfl, hm, hb, k⟩ := h
    refine ⟨_, pss_cons (ps_if (pt_not (pt_chain op_le op_le pe_int (pv 1) pe_int)) (pss_one ps_never) pss_nil)
      (pss_one (ps_if (pt_cmpR op_gt (pv 1) pe_int (nomark _)) (pss_one (ps_expr (C8.pe_c cXs hr (by decide) rfl (pa_cons (pv 0) (pa_cons (pe_callB (call_min2 rfl) (by rfl) T.min (by decide +kernel) (pa_cons (pv 1) (pa_cons pe_int pa_nil))) pa_nil))))) pss_nil)), ?_⟩
    refine ⟨_, rfl, _, _, rfl, rfl, _, rfl, iteB (fun _ => ⟨_, _, rfl, rfl, _, rfl, ?_⟩) (fun h => absurd hm.1 h)⟩
    refine iteN (fun h => absurd hm.2 h) (fun _ => ?_)
    refine ⟨_, rfl, _, _, rfl, rfl, _, rfl, iteB (fun h => ?_) (fun _ => k)⟩
    rcases hb with e | ⟨b0, b1⟩
    · exact absurd h (by omega)
    · exact ⟨_, rfl, _, rfl, _, _, rfl, b, _, rfl, b0, b1, k⟩
/-! ### a writer that stands in the heap -/
structure WAt (K : PySem.W.Frag) (H : Hp) (x a ca : Addr) (s : Thm.ES) : Prop where
  wr : ∃ dx, H x = some (.ins (cW K) dx [("encoder", .ref a)])
  en : EAt K H a ca s
  ne : x ≠ a
theorem WAt.frm {H H' : Hp} {x a ca : Addr} {s s' : Thm.ES} (h : WAt K H x a ca s) (fr : Frm a ca H H') (e : EAt K H' a ca s') : WAt K H' x a ca s' := by
  obtain ⟨dx, q⟩ := h.wr
  exact ⟨⟨dx, fr x _ q h.ne (ne_of q h.en.ch (by intro z; cases z))⟩, e, h.ne⟩
def spWinit (K : PySem.W.Frag) : Sp := fun vs H Q _ => ∃ (x dx a : Addr), vs = [.ref x, .ref a] ∧ H x = some (.ins (cW K) dx []) ∧ Q .non (upd H x (.ins (cW K) dx [("encoder", .ref a)]))
theorem scWinit : FnScope ["self", "encoder"] ["self", "encoder"] (defScope sWinit) := ⟨rfl, rfl, rfl, by decide +kernel, rfl, by decide +kernel, by decide +kernel⟩
theorem okWinit {f : Addr} {fd : FuncData} (F : Fun K "__init__" "SymbolWriter.__init__" sWinit f fd) (T : Txt K mg) : FnOk P w K mg base CX0 1 f fd ["self", "encoder"] (spWinit K) := by
  refine F.ok scWinit (fun vs H Q E h => ?_) (fun cdv A outer s H vs Q E hr h => ?_)
  · obtain ⟨x, dx, a, rfl, _⟩ := h
    rfl
  · obtain ⟨x, dx, a, rfl, hx, k⟩ := h
    exact ⟨_, pss_one (ps_fld (pv 0) (pv 1) rfl), _, rfl, _, rfl, x, _, dx, [], rfl, hx, T.clW, T.nWe, by decide, k⟩
/-! ### even, flag -/
def spWeven (K : PySem.W.Frag) : Sp := fun vs H Q _ => ∃ (x a ca : Addr) (s : Thm.ES) (d : Int), vs = [.ref x, .int d] ∧ WAt K H x a ca s ∧ Thm.EOk s ∧ (d = 0 ∨ d = 1) ∧
  ∀ H', WAt K H' x a ca (Thm.eStep s (none, d)) → Frm a ca H H' → Q .non H'
theorem scWeven : FnScope ["self", "decision"] ["self", "decision"] (defScope sWeven) := ⟨rfl, rfl, rfl, by decide +kernel, rfl, by decide +kernel, by decide +kernel⟩
theorem okWeven {f : Addr} {fd : FuncData} (F : Fun K "even" "SymbolWriter.even" sWeven f fd) (T : Txt K mg) (mCe : C8.Met P w K mg base 2 (cE K) "code_even" (spEeven K) []) : FnOk P w K mg base CX0 3 f fd ["self", "decision"] (spWeven K) := by
  refine F.ok scWeven (fun vs H Q E h => ?_) (fun cdv A outer s H vs Q E hr h => ?_)
  · obtain ⟨x, a, ca, s, d, rfl, _⟩ := h
    rfl
  · obtain ⟨x, a, ca, s, d, rfl, R, ok, hd, k⟩ := h
    obtain ⟨dw, wr⟩ := R.wr
    obtain ⟨dx, ob⟩ := R.en.ob
    refine ⟨_, pss_one (ps_expr (C8.pe_mt mCe hr (by decide) (pe_fld (pv 0) rfl) (pa_cons (pv 1) pa_nil))), ?_⟩
    exact ⟨_, rfl, x, _, dw, _, _, rfl, wr, T.clW, T.nWe, rfl, a, dx, _, rfl, ob, rfl, _, rfl, a, ca, s, d, rfl, R.en, ok, hd, fun H1 R1 fr => k H1 (R.frm fr R1) fr⟩
def spWflag (K : PySem.W.Frag) : Sp := fun vs H Q _ => ∃ (x a ca : Addr) (s : Thm.ES) (b : Int) (v : Bool), vs = [.ref x, .int b, .bl v] ∧ WAt K H x a ca s ∧ Thm.EOk s ∧ (0 ≤ b ∧ b ≤ 255) ∧
  ∀ H', WAt K H' x a ca (Thm.eStep s (some b, if v = true then 1 else 0)) → Frm a ca H H' → Q .non H'
theorem scWflag : FnScope ["self", "base", "value"] ["self", "base", "value"] (defScope sWflag) := ⟨rfl, rfl, rfl, by decide +kernel, rfl, by decide +kernel, by decide +kernel⟩
theorem okWflag {f : Addr} {fd : FuncData} (F : Fun K "flag" "SymbolWriter.flag" sWflag f fd) (T : Txt K mg) (cXs : C8.Cal P w K mg base 1 "check_contexts" spCxs []) (mCo : C8.Met P w K mg base 2 (cE K) "code" (spEcode K) []) : FnOk P w K mg base CX0 3 f fd ["self", "base", "value"] (spWflag K) := by
  refine F.ok scWflag (fun vs H Q E h => ?_) (fun cdv A outer s H vs Q E hr h => ?_)
  · obtain ⟨x, a, ca, s, b, v, rfl, _⟩ := h
    rfl
  · obtain ⟨x, a, ca, s, b, v, rfl, R, ok, hb, k⟩ := h
    obtain ⟨dw, wr⟩ := R.wr
    obtain ⟨dx, ob⟩ := R.en.ob
    refine ⟨_, pss_cons (ps_expr (C8.pe_c cXs hr (by decide) rfl (pa_cons (pv 1) (pa_cons pe_int pa_nil))))
      (pss_one (ps_expr (C8.pe_mt mCo hr (by decide) (pe_fld (pv 0) rfl) (pa_cons (pv 1) (pa_cons (pe_ifExp (pt_val (pv 2)) pe_int pe_int) pa_nil))))), ?_⟩
    refine ⟨_, rfl, b, _, rfl, hb.1, by omega, ?_⟩
    refine ⟨_, rfl, x, _, dw, _, _, rfl, wr, T.clW, T.nWe, rfl, a, dx, _, rfl, ob, rfl, _, rfl, _, rfl, v, rfl, ?_⟩
    have hc : ∀ i, some b = some i → 0 ≤ i ∧ i < 256 := fun i e => by
      have e2 : b = i := Option.some.inj e
      omega
    cases v with
    | true => exact iteT ⟨a, ca, s, b, 1, rfl, R.en, ok, ⟨.inr rfl, hc⟩, fun H1 R1 fr => k H1 (R.frm fr R1) fr⟩
    | false => exact iteF ⟨a, ca, s, b, 0, rfl, R.en, ok, ⟨.inl rfl, hc⟩, fun H1 R1 fr => k H1 (R.frm fr R1) fr⟩
end
end Th
namespace Th
open PySem PySem.Spec PyProof.Rows L2
section
variable {P : Program} {w : World} {K : PySem.W.Frag} {mg : Str → Option Value} {base : Heap}
/-! ### choice -/
def spWchoice (K : PySem.W.Frag) : Sp := fun vs H Q _ => ∃ (x a ca : Addr) (s : Thm.ES) (b v c : Int) (n : Nat), vs = [.ref x, .int b, .int v, .int c] ∧ WAt K H x a ca s ∧ Thm.EOk s ∧ (1 ≤ c ∧ c ≤ 16) ∧ (0 ≤ v ∧ v < c) ∧ n = nb (c - 1) ∧
  (n ≤ 4 ∧ c ≤ 2 ^ n) ∧ (n = 0 ∨ (0 ≤ b ∧ b + 2 ^ n ≤ 257)) ∧ ∀ H', WAt K H' x a ca (Thm.eFold s (Thm.chD b v 1 n)) → Frm a ca H H' → Q .non H'
theorem scWchoice : FnScope ["self", "base", "value", "count", "digits", "node", "place", "digit"] ["self", "base", "value", "count"] (defScope sWchoice) := ⟨rfl, rfl, rfl, by decide +kernel, rfl, by decide +kernel, by decide +kernel⟩
theorem okWchoice {f : Addr} {fd : FuncData} (F : Fun K "choice" "SymbolWriter.choice" sWchoice f fd) (T : Txt K mg) (cCh : C8.Cal P w K mg base 2 "check_choice" spCch []) (mCo : C8.Met P w K mg base 2 (cE K) "code" (spEcode K) []) : FnOk P w K mg base CX0 3 f fd ["self", "base", "value", "count"] (spWchoice K) := by
  refine F.ok scWchoice (fun vs H Q E h => ?_) (fun cdv A outer s H vs Q E hr h => ?_)
  · obtain ⟨x, a, ca, s, b, v, c, n, rfl, _⟩ := h
    rfl
  · obtain ⟨x, a, ca, s, b, v, c, n, rfl, R, ok, hc, hv, en, hn, hb, k⟩ := h
    refine ⟨_, pss_cons (ps_set (i := 4) scWchoice.nd rfl (Or.inl rfl) (C8.pe_c cCh hr (by decide) rfl (pa_cons (pv 1) (pa_cons (pv 3) pa_nil))))
      (pss_cons (ps_if (pt_not (pt_chain op_le op_lt pe_int (pv 2) (pv 3))) (pss_one ps_never) pss_nil)
      (pss_cons (ps_set (i := 5) scWchoice.nd rfl (Or.inl rfl) pe_int)
      (pss_one (ps_for PassesOwn.never rfl (pi_range3 rfl T.range (pa_cons (pe_op op_sub (pv 4) pe_int) (pa_cons (pe_un un_neg pe_int) (pa_cons (pe_un un_neg pe_int) pa_nil)))) (pg_name (i := 6) scWchoice.nd rfl (Or.inl rfl))
        (pss_cons (ps_set (i := 7) scWchoice.nd rfl (Or.inl rfl) (pe_op op_andM (pe_op op_shrN (pv 2) (pv 6)) pe_int))
        (pss_cons (ps_expr (C8.pe_mt mCo hr (by decide) (pe_fld (pv 0) rfl) (pa_cons (pe_op op_sub (pe_op op_add (pv 1) (pv 5)) pe_int) (pa_cons (pv 7) pa_nil))))
        (pss_one (ps_set (i := 5) scWchoice.nd rfl (Or.inl rfl) (pe_op op_add (pe_op op_mul pe_int (pv 5)) (pv 7)))))))))), ?_⟩
    refine ⟨_, rfl, _, rfl, b, c, n, rfl, hc, en, hn.1, hb, ?_⟩
    refine ⟨_, rfl, _, _, rfl, rfl, _, rfl, iteB (fun _ => ⟨_, rfl, _, _, rfl, rfl, _, rfl, ?_⟩) (fun h => absurd hv.1 h)⟩
    refine iteN (fun h => absurd hv.2 h) (fun _ => ?_)
    have eN : ((n : Int) - 1 - -1).toNat = n := by omega
    have hrg : RgC ((n : Int) - 1) (-1) (-1) n := by
      have z := RgC.neg (i := (n : Int) - 1) (j := -1) (by omega) (by omega) (by decide) (by decide)
      rw [eN] at z
      exact z
    refine ⟨_, rfl, _, _, rfl, rfl, _, rfl, _, rfl, (n : Int) - 1, -1, -1, n, rfl, hrg, ?_⟩
    refine for_rangeC (n := n) (fun i σ H' => ∃ (s' : Thm.ES) (node : Int) (v6 v7 : Option V), σ = [some (.ref x), some (.int b), some (.int v), some (.int c), some (.int (n : Int)), some (.int node), v6, v7] ∧ WAt K H' x a ca s' ∧ Thm.EOk s' ∧ Frm a ca H H' ∧
        Thm.eFold s' (Thm.chD b v node (n - i)) = Thm.eFold s (Thm.chD b v 1 n) ∧ node = 2 ^ i + v / 2 ^ (n - i))
      ⟨s, 1, none, none, rfl, R, ok, Frm.refl H, rfl, Thm.one_node v hv.1 (by omega)⟩ ?_ ?_
    · rintro i σ H' hi ⟨s', node, v6, v7, rfl, R', ok', fr, he, hnode⟩
      have ep : ((n : Int) - 1 + (i : Nat) * -1) = ((n - 1 - i : Nat) : Int) := by omega
      rw [ep]
      obtain ⟨dw, wr⟩ := R'.wr
      obtain ⟨dx, ob⟩ := R'.en.ob
      have hb2 : 0 ≤ b ∧ b + 2 ^ n ≤ 257 := by
        rcases hb with e | e
        · omega
        · exact e
      have hcx := Thm.node_cx hi hv.1 (by omega : v < 2 ^ n) hb2 hnode
      have hk : n - i = (n - 1 - i) + 1 := by omega
      rw [hk, Thm.chD, Thm.eFold_cons] at he
      have dok : Thm.DcOk (some (b + node - 1), v / 2 ^ (n - 1 - i) % 2) := ⟨Thm.bit01 _, fun j hj => by
        have e2 : b + node - 1 = j := Option.some.inj hj
        rw [← e2]
        exact hcx⟩
      refine ⟨_, rfl, _, rfl, v, n - 1 - i, rfl, rfl, v / 2 ^ (n - 1 - i), 1, rfl, rfl, ?_⟩
      refine ⟨_, rfl, x, _, dw, _, _, rfl, wr, T.clW, T.nWe, rfl, a, dx, _, rfl, ob, rfl, _, rfl, _, rfl, _, _, rfl, rfl, _, _, rfl, rfl, _, rfl, a, ca, s', _, _, rfl, R'.en, ok', dok, fun H1 R1 fr1 => ?_⟩
      refine ⟨_, rfl, _, _, rfl, rfl, .inl ⟨by decide, by decide⟩, _, rfl, _, _, rfl, rfl, ?_⟩
      refine ⟨_, 2 * node + v / 2 ^ (n - 1 - i) % 2, _, _, rfl, R'.frm fr1 R1, Thm.eStep_ok ok' dok, fr.trans fr1, ?_, Thm.node_next hi hnode⟩
      rw [show n - (i + 1) = n - 1 - i by omega]
      exact he
    · rintro σ H' ⟨s', node, v6, v7, rfl, R', ok', fr, he, hnode⟩
      rw [Nat.sub_self] at he
      have he2 : s' = Thm.eFold s (Thm.chD b v 1 n) := he
      rw [he2] at R'
      exact k H' R' fr
/-! ### unary -/
def spWunary (K : PySem.W.Frag) : Sp := fun vs H Q _ => ∃ (x a ca : Addr) (s : Thm.ES) (b v m : Int), vs = [.ref x, .int b, .int v, .int m] ∧ WAt K H x a ca s ∧ Thm.EOk s ∧ (0 ≤ m ∧ m ≤ 64) ∧ (0 ≤ v ∧ v ≤ m) ∧ Thm.UnCx b m ∧
  ∀ H', WAt K H' x a ca (Thm.eFold s (Thm.unD b v m)) → Frm a ca H H' → Q .non H'
theorem scWunary : FnScope ["self", "base", "value", "most", "at"] ["self", "base", "value", "most"] (defScope sWunary) := ⟨rfl, rfl, rfl, by decide +kernel, rfl, by decide +kernel, by decide +kernel⟩
theorem ctx_un {b m i : Int} {d : Int} (hb : Thm.UnCx b m) (h0 : 0 ≤ i) (hi : i < m) (hd : d = 0 ∨ d = 1) : Thm.DcOk (some (b + Thm.mn i 7), d) := ⟨hd, fun j hj => by
  have e2 : b + Thm.mn i 7 = j := Option.some.inj hj
  rw [← e2]
  exact Thm.un_cx hb h0 hi⟩
theorem okWunary {f : Addr} {fd : FuncData} (F : Fun K "unary" "SymbolWriter.unary" sWunary f fd) (T : Txt K mg) (cUn : C8.Cal P w K mg base 2 "check_unary" spCun []) (mCo : C8.Met P w K mg base 2 (cE K) "code" (spEcode K) []) : FnOk P w K mg base CX0 3 f fd ["self", "base", "value", "most"] (spWunary K) := by
  refine F.ok scWunary (fun vs H Q E h => ?_) (fun cdv A outer s H vs Q E hr h => ?_)
  · obtain ⟨x, a, ca, s, b, v, m, rfl, _⟩ := h
    rfl
  · obtain ⟨x, a, ca, s, b, v, m, rfl, R, ok, hm, hv, hb, k⟩ := h
    refine ⟨_, pss_cons (ps_expr (C8.pe_c cUn hr (by decide) rfl (pa_cons (pv 1) (pa_cons (pv 3) pa_nil))))
      (pss_cons (ps_if (pt_not (pt_chain op_le op_le pe_int (pv 2) (pv 3))) (pss_one ps_never) pss_nil)
      (pss_cons (ps_for PassesOwn.never rfl (pi_range1 rfl T.range (pa_cons (pv 2) pa_nil)) (pg_name (i := 4) scWunary.nd rfl (Or.inl rfl))
        (pss_one (ps_expr (C8.pe_mt mCo hr (by decide) (pe_fld (pv 0) rfl) (pa_cons (pe_op op_add (pv 1) (pe_callB (call_min2 rfl) (by rfl) T.min (by decide +kernel) (pa_cons (pv 4) (pa_cons pe_int pa_nil)))) (pa_cons pe_int pa_nil))))))
      (pss_one (ps_if (pt_cmpR op_lt (pv 2) (pv 3) (nomark _))
        (pss_one (ps_expr (C8.pe_mt mCo hr (by decide) (pe_fld (pv 0) rfl) (pa_cons (pe_op op_add (pv 1) (pe_callB (call_min2 rfl) (by rfl) T.min (by decide +kernel) (pa_cons (pv 2) (pa_cons pe_int pa_nil)))) (pa_cons pe_int pa_nil))))) pss_nil)))), ?_⟩
    refine ⟨_, rfl, _, rfl, b, m, rfl, hm, hb, ?_⟩
    refine ⟨_, rfl, _, _, rfl, rfl, _, rfl, iteB (fun _ => ⟨_, rfl, _, _, rfl, rfl, _, rfl, ?_⟩) (fun h => absurd hv.1 h)⟩
    refine iteN (fun h => absurd hv.2 h) (fun _ => ?_)
    refine ⟨_, rfl, v, rfl, by omega, by omega, ?_⟩
    refine for_range (n := v.toNat) (fun i σ H' => ∃ (s' : Thm.ES) (v4 : Option V), σ = [some (.ref x), some (.int b), some (.int v), some (.int m), v4] ∧ WAt K H' x a ca s' ∧ Thm.EOk s' ∧ Frm a ca H H' ∧
        Thm.eFold s' (Thm.ones b (i : Int) (v.toNat - i)) = Thm.eFold s (Thm.ones b 0 v.toNat))
      ⟨s, none, rfl, R, ok, Frm.refl H, rfl⟩ ?_ ?_
    · rintro i σ H' hi ⟨s', v4, rfl, R', ok', fr, he⟩
      obtain ⟨dw, wr⟩ := R'.wr
      obtain ⟨dx, ob⟩ := R'.en.ob
      rw [show v.toNat - i = v.toNat - (i + 1) + 1 by omega, Thm.ones, Thm.eFold_cons] at he
      rw [show (0 : Int) + (i : Nat) = (i : Int) by omega]
      have dok := ctx_un (d := 1) hb (i := (i : Int)) (by omega) (by omega) (.inr rfl)
      refine ⟨_, rfl, x, _, dw, _, _, rfl, wr, T.clW, T.nWe, rfl, a, dx, _, rfl, ob, rfl, _, rfl, _, rfl, _, _, rfl, _, _, rfl, rfl, a, ca, s', _, _, rfl, R'.en, ok', dok, fun H1 R1 fr1 => ?_⟩
      exact ⟨_, _, rfl, R'.frm fr1 R1, Thm.eStep_ok ok' dok, fr.trans fr1, he⟩
    · rintro σ H' ⟨s', v4, rfl, R', ok', fr, he⟩
      rw [Nat.sub_self] at he
      have he2 : s' = Thm.eFold s (Thm.ones b 0 v.toNat) := he
      obtain ⟨dw, wr⟩ := R'.wr
      obtain ⟨dx, ob⟩ := R'.en.ob
      unfold Thm.unD Thm.unT at k
      rw [Thm.eFold_append, ← he2] at k
      refine ⟨_, rfl, _, rfl, _, _, rfl, rfl, _, rfl, iteB (fun hlt => ?_) (fun hge => ?_)⟩
      · rw [if_pos hlt] at k
        have dok := ctx_un (d := 0) hb hv.1 hlt (.inl rfl)
        refine ⟨_, rfl, x, _, dw, _, _, rfl, wr, T.clW, T.nWe, rfl, a, dx, _, rfl, ob, rfl, _, rfl, _, rfl, _, _, rfl, _, _, rfl, rfl, a, ca, s', _, _, rfl, R'.en, ok', dok, fun H1 R1 fr1 => ?_⟩
        exact k H1 (R'.frm fr1 R1) (fr.trans fr1)
      · rw [if_neg hge] at k
        exact k H' R' fr
end
end Th
namespace Th
open PySem PySem.Spec PyProof.Rows L2
theorem digs_nb {m : Int} (h : 1 ≤ m) : Thm.Digs m (nb m) := by
  obtain ⟨n, rfl⟩ := Int.eq_ofNat_of_zero_le (show 0 ≤ m by omega)
  have hn : n ≠ 0 := by omega
  have e : nb (n : Int) = n.log2 + 1 := by
    show (if ((n : Int) == 0) = true then 0 else ((n : Int).natAbs.log2 + 1)) = _
    rw [if_neg (by simpa using hn)]
    rfl
  have a := Nat.log2_self_le hn
  have b := @Nat.lt_log2_self n
  rw [e]
  refine ⟨by omega, ?_, ?_⟩
  · rw [Nat.add_sub_cancel]
    have c : ((2 ^ n.log2 : Nat) : Int) ≤ (n : Int) := Int.ofNat_le.mpr a
    rw [Int.natCast_pow] at c
    exact c
  · have c : (n : Int) < ((2 ^ (n.log2 + 1) : Nat) : Int) := Int.ofNat_lt.mpr b
    rw [Int.natCast_pow] at c
    exact c
section
variable {P : Program} {w : World} {K : PySem.W.Frag} {mg : Str → Option Value} {base : Heap}
/-! ### number -/
def spWnumber (K : PySem.W.Frag) : Sp := fun vs H Q _ => ∃ (x a ca : Addr) (s : Thm.ES) (b v : Int) (n : Nat), vs = [.ref x, .int b, .int v] ∧ WAt K H x a ca s ∧ Thm.EOk s ∧ (0 ≤ b ∧ b ≤ 240) ∧ (0 ≤ v ∧ v ≤ 1048576) ∧ n = nb (v + 1) ∧
  ∀ H', WAt K H' x a ca (Thm.eFold s (Thm.nuD b v n)) → Frm a ca H H' → Q .non H'
theorem scWnumber : FnScope ["self", "base", "value", "digits", "place", "digit"] ["self", "base", "value"] (defScope sWnumber) := ⟨rfl, rfl, rfl, by decide +kernel, rfl, by decide +kernel, by decide +kernel⟩
theorem okWnumber {f : Addr} {fd : FuncData} (F : Fun K "number" "SymbolWriter.number" sWnumber f fd) (T : Txt K mg) (cXs : C8.Cal P w K mg base 1 "check_contexts" spCxs [])
    (mUn : MetN P w K mg base 3 (cW K) "unary" (spWunary K) 3 ["most"]) (mCo : C8.Met P w K mg base 2 (cE K) "code" (spEcode K) []) (mCe : C8.Met P w K mg base 2 (cE K) "code_even" (spEeven K) []) : FnOk P w K mg base CX0 4 f fd ["self", "base", "value"] (spWnumber K) := by
  refine F.ok scWnumber (fun vs H Q E h => ?_) (fun cdv A outer s H vs Q E hr h => ?_)
  · obtain ⟨x, a, ca, s, b, v, n, rfl, _⟩ := h
    rfl
  · obtain ⟨x, a, ca, s, b, v, n, rfl, R, ok, hb, hv, en, k⟩ := h
    have dg : Thm.Digs (v + 1) n := by
      rw [en]
      exact digs_nb (by omega)
    have hn21 := dg.le hv.2
    have hn1 := dg.pos
    refine ⟨_, pss_cons (ps_expr (C8.pe_c cXs hr (by decide) rfl (pa_cons (pv 1) (pa_cons pe_int pa_nil))))
      (pss_cons (ps_if (pt_not (pt_chain op_le op_le pe_int (pv 2) (pe_gi T.maxn))) (pss_one ps_never) pss_nil)
      (pss_cons (ps_set (i := 3) scWnumber.nd rfl (Or.inl rfl) (pe_bits (pe_op op_add (pv 2) pe_int)))
      (pss_cons (ps_expr (pe_mtN mUn hr (by decide) (pv 0) (pa_cons (pv 1) (pa_cons (pe_op op_sub (pv 3) pe_int) pa_nil)) (pk_cons (pe_gi T.prefx) pk_nil)))
      (pss_one (ps_for PassesOwn.never rfl (pi_range3 rfl T.range (pa_cons (pe_op op_sub (pv 3) pe_int) (pa_cons (pe_un un_neg pe_int) (pa_cons (pe_un un_neg pe_int) pa_nil)))) (pg_name (i := 4) scWnumber.nd rfl (Or.inl rfl))
        (pss_cons (ps_set (i := 5) scWnumber.nd rfl (Or.inl rfl) (pe_op op_andM (pe_op op_shrN (pe_op op_add (pv 2) pe_int) (pv 4)) pe_int))
        (pss_one (ps_if (pt_cmpR op_eq (pv 4) (pe_op op_sub (pv 3) pe_int) (nomark _))
          (pss_one (ps_expr (C8.pe_mt mCo hr (by decide) (pe_fld (pv 0) rfl) (pa_cons (pe_op op_add (pe_op op_add (pv 1) pe_int) (pe_callB (call_min2 rfl) (by rfl) T.min (by decide +kernel) (pa_cons (pe_op op_sub (pv 3) pe_int) (pa_cons pe_int pa_nil)))) (pa_cons (pv 5) pa_nil)))))
          (pss_one (ps_expr (C8.pe_mt mCe hr (by decide) (pe_fld (pv 0) rfl) (pa_cons (pv 5) pa_nil))))))))))))  , ?_⟩
    refine ⟨_, rfl, b, _, rfl, hb.1, by omega, ?_⟩
    refine ⟨_, rfl, _, _, rfl, rfl, _, rfl, iteB (fun _ => ⟨_, _, rfl, rfl, _, rfl, ?_⟩) (fun h => absurd hv.1 h)⟩
    refine iteN (fun h => absurd hv.2 h) (fun _ => ?_)
    refine ⟨_, rfl, _, _, rfl, rfl, _, rfl, ?_⟩
    rw [show Builtin.Int.intBits (v + 1) = n from en.symm]
    obtain ⟨dw0, wr0⟩ := R.wr
    refine ⟨_, rfl, x, dw0, _, rfl, wr0, rfl, _, rfl, _, rfl, _, _, rfl, rfl, rfl, rfl, x, a, ca, s, b, (n : Int) - 1, 20, rfl, R, ok, ⟨by decide, by decide⟩, ⟨by omega, by omega⟩, Thm.nu_un hb, fun H0 R0 fr0 => ?_⟩
    have ok0 : Thm.EOk (Thm.eFold s (Thm.unD b ((n : Int) - 1) 20)) := Thm.eFold_ok ok (Thm.unD_ok (Thm.nu_un hb) (by omega) (by omega))
    have eN : ((n : Int) - 2 - -1).toNat = n - 1 := by omega
    have hrg : RgC ((n : Int) - 2) (-1) (-1) (n - 1) := by
      have z := RgC.neg (i := (n : Int) - 2) (j := -1) (by omega) (by omega) (by decide) (by decide)
      rw [eN] at z
      exact z
    unfold Thm.nuD at k
    rw [Thm.eFold_append] at k
    generalize Thm.eFold s (Thm.unD b ((n : Int) - 1) 20) = s0 at k R0 ok0
    refine ⟨_, rfl, _, _, rfl, rfl, _, rfl, _, rfl, (n : Int) - 2, -1, -1, n - 1, rfl, hrg, ?_⟩
    refine for_rangeC (n := n - 1) (fun i σ H' => ∃ (s' : Thm.ES) (v4 v5 : Option V), σ = [some (.ref x), some (.int b), some (.int v), some (.int (n : Int)), v4, v5] ∧ WAt K H' x a ca s' ∧ Thm.EOk s' ∧ Frm a ca H H' ∧
        Thm.eFold s' (Thm.nuT b (v + 1) n (n - 1 - i)) = Thm.eFold s0 (Thm.nuT b (v + 1) n (n - 1)))
      ⟨s0, none, none, rfl, R0, ok0, fr0, rfl⟩ ?_ ?_
    · rintro i σ H' hi ⟨s', v4, v5, rfl, R', ok', fr, he⟩
      obtain ⟨p, hp⟩ : ∃ p, n = p + 2 + i := ⟨n - 2 - i, by omega⟩
      have ep : ((n : Int) - 2 + (i : Nat) * -1) = ((p : Nat) : Int) := by omega
      rw [ep]
      obtain ⟨dw, wr⟩ := R'.wr
      obtain ⟨dx, ob⟩ := R'.en.ob
      rw [show n - 1 - i = p + 1 by omega, Thm.nuT, Thm.eFold_cons] at he
      refine ⟨_, rfl, _, _, rfl, rfl, _, rfl, v + 1, p, rfl, rfl, (v + 1) / 2 ^ p, 1, rfl, rfl, ?_⟩
      refine ⟨_, rfl, _, rfl, _, _, rfl, rfl, rfl, _, rfl, iteE (fun e => ?_) (fun e => ?_)⟩
      · rw [if_pos (show p + 2 = n by omega)] at he
        have dok : Thm.DcOk (some (b + 8 + Thm.mn ((n : Int) - 2) 7), (v + 1) / 2 ^ p % 2) := ⟨Thm.bit01 _, fun j hj => by
          have e2 : b + 8 + Thm.mn ((n : Int) - 2) 7 = j := Option.some.inj hj
          rw [← e2]
          exact Thm.nu_cx hb (by omega)⟩
        refine ⟨_, rfl, x, _, dw, _, _, rfl, wr, T.clW, T.nWe, rfl, a, dx, _, rfl, ob, rfl, _, rfl, _, _, rfl, rfl, _, rfl, _, _, rfl, rfl, _, _, rfl, _, _, rfl, rfl, _, rfl, a, ca, s', _, _, rfl, R'.en, ok', dok, fun H1 R1 fr1 => ?_⟩
        refine ⟨_, _, _, rfl, R'.frm fr1 R1, Thm.eStep_ok ok' dok, fr.trans fr1, ?_⟩
        rw [show n - 1 - (i + 1) = p by omega]
        exact he
      · rw [if_neg (show ¬ p + 2 = n by omega)] at he
        have dok : Thm.DcOk (none, (v + 1) / 2 ^ p % 2) := ⟨Thm.bit01 _, fun j hj => by cases hj⟩
        refine ⟨_, rfl, x, _, dw, _, _, rfl, wr, T.clW, T.nWe, rfl, a, dx, _, rfl, ob, rfl, _, rfl, a, ca, s', _, rfl, R'.en, ok', Thm.bit01 _, fun H1 R1 fr1 => ?_⟩
        refine ⟨_, _, _, rfl, R'.frm fr1 R1, Thm.eStep_ok ok' dok, fr.trans fr1, ?_⟩
        rw [show n - 1 - (i + 1) = p by omega]
        exact he
    · rintro σ H' ⟨s', v4, v5, rfl, R', ok', fr, he⟩
      rw [Nat.sub_self] at he
      have he2 : s' = Thm.eFold s0 (Thm.nuT b (v + 1) n (n - 1)) := he
      rw [he2] at R'
      exact k H' R' fr
/-! ### signed -/
def spWsigned (K : PySem.W.Frag) : Sp := fun vs H Q _ => ∃ (x a ca : Addr) (s : Thm.ES) (b v : Int) (n : Nat), vs = [.ref x, .int b, .int v] ∧ WAt K H x a ca s ∧ Thm.EOk s ∧ (0 ≤ b ∧ b ≤ 240) ∧ (-1048576 ≤ v ∧ v ≤ 1048576) ∧ n = nb (Thm.ab v + 1) ∧
  ∀ H', WAt K H' x a ca (Thm.eFold s (Thm.sgD b v n)) → Frm a ca H H' → Q .non H'
theorem scWsigned : FnScope ["self", "base", "value"] ["self", "base", "value"] (defScope sWsigned) := ⟨rfl, rfl, rfl, by decide +kernel, rfl, by decide +kernel, by decide +kernel⟩
theorem okWsigned {f : Addr} {fd : FuncData} (F : Fun K "signed" "SymbolWriter.signed" sWsigned f fd) (T : Txt K mg) (mNu : C8.Met P w K mg base 4 (cW K) "number" (spWnumber K) [])
    (mCe : C8.Met P w K mg base 2 (cE K) "code_even" (spEeven K) []) : FnOk P w K mg base CX0 5 f fd ["self", "base", "value"] (spWsigned K) := by
  refine F.ok scWsigned (fun vs H Q E h => ?_) (fun cdv A outer s H vs Q E hr h => ?_)
  · obtain ⟨x, a, ca, s, b, v, n, rfl, _⟩ := h
    rfl
  · obtain ⟨x, a, ca, s, b, v, n, rfl, R, ok, hb, hv, en, k⟩ := h
    have dg : Thm.Digs (Thm.ab v + 1) n := by
      rw [en]
      exact digs_nb (by have := Thm.ab_le hv; omega)
    obtain ⟨dw0, wr0⟩ := R.wr
    refine ⟨_, pss_cons (ps_expr (C8.pe_mt mNu hr (by decide) (pv 0) (pa_cons (pv 1) (pa_cons (pe_callB call_abs (by rfl) T.abs (by decide +kernel) (pa_cons (pv 2) pa_nil)) pa_nil))))
      (pss_one (ps_if (pt_cmpR op_ne (pv 2) pe_int (nomark _)) (pss_one (ps_expr (C8.pe_mt mCe hr (by decide) (pe_fld (pv 0) rfl) (pa_cons (pe_ifExp (pt_cmpR op_lt (pv 2) pe_int (nomark _)) pe_int pe_int) pa_nil)))) pss_nil)), ?_⟩
    refine ⟨_, rfl, x, dw0, _, rfl, wr0, rfl, _, rfl, _, rfl, v, rfl, x, a, ca, s, b, Thm.ab v, n, rfl, R, ok, hb, Thm.ab_le hv, en, fun H0 R0 fr0 => ?_⟩
    have ok0 : Thm.EOk (Thm.eFold s (Thm.nuD b (Thm.ab v) n)) := Thm.eFold_ok ok (Thm.nuD_ok hb dg (Thm.ab_le hv).2)
    unfold Thm.sgD at k
    rw [Thm.eFold_append] at k
    generalize Thm.eFold s (Thm.nuD b (Thm.ab v) n) = s0 at k R0 ok0
    obtain ⟨dw, wr⟩ := R0.wr
    obtain ⟨dx, ob⟩ := R0.en.ob
    unfold Thm.sgT at k
    refine ⟨_, rfl, rfl, _, rfl, iteM (fun e => ?_) (fun e => ?_)⟩
    · rw [if_neg e] at k
      refine ⟨_, rfl, x, _, dw, _, _, rfl, wr, T.clW, T.nWe, rfl, a, dx, _, rfl, ob, rfl, _, rfl, _, _, rfl, rfl, _, rfl, iteB (fun hlt => ?_) (fun hge => ?_)⟩
      · rw [if_pos hlt] at k
        exact ⟨a, ca, s0, 1, rfl, R0.en, ok0, .inr rfl, fun H1 R1 fr1 => k H1 (R0.frm fr1 R1) (fr0.trans fr1)⟩
      · rw [if_neg hge] at k
        exact ⟨a, ca, s0, 0, rfl, R0.en, ok0, .inl rfl, fun H1 R1 fr1 => k H1 (R0.frm fr1 R1) (fr0.trans fr1)⟩
    · rw [if_pos e] at k
      exact k H0 R0 fr0
end
end Th
namespace Th
open PySem PySem.Spec PyProof.Rows L2
theorem dec_int (i j : Int) : decide (V.int i = V.int j) = decide (i = j) := by
  by_cases h : i = j
  · rw [h, decide_eq_true rfl, decide_eq_true rfl]
  · rw [decide_eq_false h, decide_eq_false fun e => h (V.int.inj e)]
section
variable {P : Program} {w : World} {K : PySem.W.Frag} {mg : Str → Option Value} {base : Heap}
/-! ### a reader that stands in the heap -/
structure QAt (K : PySem.W.Frag) (H : Hp) (x a ca : Addr) (D : List Thm.Dc) : Prop where
  rd : ∃ dx, H x = some (.ins (cR K) dx [("decoder", .ref a)])
  de : RAt K H a ca D
  ne : x ≠ a
theorem RAt.ob {H : Hp} {a ca : Addr} {D : List Thm.Dc} (h : RAt K H a ca D) : ∃ dx fs, H a = some (.ins (cD K) dx fs) ∧ fs.lookup ("read" : Str) = none ∧ fs.lookup ("read_even" : Str) = none := by
  obtain ⟨sa, t, R, _, _⟩ := h
  obtain ⟨dx, e⟩ := R.ob
  exact ⟨dx, _, e, rfl, rfl⟩
theorem QAt.frm {H H' : Hp} {x a ca : Addr} {D D' : List Thm.Dc} (h : QAt K H x a ca D) (fr : Frm a ca H H') (e : RAt K H' a ca D') : QAt K H' x a ca D' := by
  obtain ⟨dx, q⟩ := h.rd
  obtain ⟨sa, t, R, _, _⟩ := h.de
  exact ⟨⟨dx, fr x _ q h.ne (ne_of q R.ch (by intro z; cases z))⟩, e, h.ne⟩
def spRinit (K : PySem.W.Frag) : Sp := fun vs H Q _ => ∃ (x dx a : Addr), vs = [.ref x, .ref a] ∧ H x = some (.ins (cR K) dx []) ∧ Q .non (upd H x (.ins (cR K) dx [("decoder", .ref a)]))
theorem scRinit : FnScope ["self", "decoder"] ["self", "decoder"] (defScope sRinit) := ⟨rfl, rfl, rfl, by decide +kernel, rfl, by decide +kernel, by decide +kernel⟩
theorem okRinit {f : Addr} {fd : FuncData} (F : Fun K "__init__" "SymbolReader.__init__" sRinit f fd) (T : Txt K mg) : FnOk P w K mg base CX0 1 f fd ["self", "decoder"] (spRinit K) := by
  refine F.ok scRinit (fun vs H Q E h => ?_) (fun cdv A outer s H vs Q E hr h => ?_)
  · obtain ⟨x, dx, a, rfl, _⟩ := h
    rfl
  · obtain ⟨x, dx, a, rfl, hx, k⟩ := h
    exact ⟨_, pss_one (ps_fld (pv 0) (pv 1) rfl), _, rfl, _, rfl, x, _, dx, [], rfl, hx, T.clR, T.nRd, by decide, k⟩
/-! ### even, flag -/
def spReven (K : PySem.W.Frag) : Sp := fun vs H Q _ => ∃ (x a ca : Addr) (d : Int) (D : List Thm.Dc), vs = [.ref x] ∧ QAt K H x a ca ((none, d) :: D) ∧ ∀ H', QAt K H' x a ca D → Frm a ca H H' → Q (.int d) H'
theorem scReven : FnScope ["self"] ["self"] (defScope sReven) := ⟨rfl, rfl, rfl, by decide +kernel, rfl, by decide +kernel, by decide +kernel⟩
theorem okReven {f : Addr} {fd : FuncData} (F : Fun K "even" "SymbolReader.even" sReven f fd) (T : Txt K mg) (mRe : C8.Met P w K mg base 3 (cD K) "read_even" (spDeven K) []) : FnOk P w K mg base CX0 4 f fd ["self"] (spReven K) := by
  refine F.ok scReven (fun vs H Q E h => ?_) (fun cdv A outer s H vs Q E hr h => ?_)
  · obtain ⟨x, a, ca, d, D, rfl, _⟩ := h
    rfl
  · obtain ⟨x, a, ca, d, D, rfl, R, k⟩ := h
    obtain ⟨dr, rd⟩ := R.rd
    obtain ⟨dx, fs, ob, l1, l2⟩ := R.de.ob
    refine ⟨_, pss_one (ps_ret (C8.pe_mt0 mRe hr (by decide) (pe_fld (pv 0) rfl))), ?_⟩
    exact ⟨_, rfl, x, _, dr, _, _, rfl, rd, T.clR, T.nRd, rfl, a, dx, _, rfl, ob, l2, a, ca, d, D, rfl, R.de, fun H1 R1 fr => k H1 (R.frm fr R1) fr⟩
def spRflag (K : PySem.W.Frag) : Sp := fun vs H Q _ => ∃ (x a ca : Addr) (b d : Int) (D : List Thm.Dc), vs = [.ref x, .int b] ∧ QAt K H x a ca ((some b, d) :: D) ∧ (0 ≤ b ∧ b ≤ 255) ∧
  ∀ H', QAt K H' x a ca D → Frm a ca H H' → Q (.bl (decide (d = 1))) H'
theorem scRflag : FnScope ["self", "base"] ["self", "base"] (defScope sRflag) := ⟨rfl, rfl, rfl, by decide +kernel, rfl, by decide +kernel, by decide +kernel⟩
theorem okRflag {f : Addr} {fd : FuncData} (F : Fun K "flag" "SymbolReader.flag" sRflag f fd) (T : Txt K mg) (cXs : C8.Cal P w K mg base 1 "check_contexts" spCxs []) (mRd : C8.Met P w K mg base 3 (cD K) "read" (spDread K) []) : FnOk P w K mg base CX0 4 f fd ["self", "base"] (spRflag K) := by
  refine F.ok scRflag (fun vs H Q E h => ?_) (fun cdv A outer s H vs Q E hr h => ?_)
  · obtain ⟨x, a, ca, b, d, D, rfl, _⟩ := h
    rfl
  · obtain ⟨x, a, ca, b, d, D, rfl, R, hb, k⟩ := h
    obtain ⟨dr, rd⟩ := R.rd
    obtain ⟨dx, fs, ob, l1, l2⟩ := R.de.ob
    refine ⟨_, pss_cons (ps_expr (C8.pe_c cXs hr (by decide) rfl (pa_cons (pv 1) (pa_cons pe_int pa_nil))))
      (pss_one (ps_ret (pe_cmpR op_eq (C8.pe_mt mRd hr (by decide) (pe_fld (pv 0) rfl) (pa_cons (pv 1) pa_nil)) pe_int (nomark _)))), ?_⟩
    refine ⟨_, rfl, b, _, rfl, hb.1, by omega, ?_⟩
    refine ⟨_, rfl, x, _, dr, _, _, rfl, rd, T.clR, T.nRd, rfl, a, dx, _, rfl, ob, l1, _, rfl, a, ca, b, d, D, rfl, R.de, ⟨hb.1, by omega⟩, fun H1 R1 fr => ⟨rfl, ?_⟩⟩
    rw [dec_int]
    exact k H1 (R.frm fr R1) fr
/-! ### choice -/
def spRchoice (K : PySem.W.Frag) : Sp := fun vs H Q _ => ∃ (x a ca : Addr) (b v c : Int) (n : Nat) (D : List Thm.Dc), vs = [.ref x, .int b, .int c] ∧ QAt K H x a ca (Thm.chD b v 1 n ++ D) ∧ (1 ≤ c ∧ c ≤ 16) ∧ (0 ≤ v ∧ v < c) ∧ n = nb (c - 1) ∧
  (n ≤ 4 ∧ c ≤ 2 ^ n) ∧ (n = 0 ∨ (0 ≤ b ∧ b + 2 ^ n ≤ 257)) ∧ ∀ H', QAt K H' x a ca D → Frm a ca H H' → Q (.int v) H'
theorem scRchoice : FnScope ["self", "base", "count", "digits", "node", "_"] ["self", "base", "count"] (defScope sRchoice) := ⟨rfl, rfl, rfl, by decide +kernel, rfl, by decide +kernel, by decide +kernel⟩
theorem okRchoice {f : Addr} {fd : FuncData} (F : Fun K "choice" "SymbolReader.choice" sRchoice f fd) (T : Txt K mg) (cCh : C8.Cal P w K mg base 2 "check_choice" spCch []) (mRd : C8.Met P w K mg base 3 (cD K) "read" (spDread K) []) : FnOk P w K mg base CX0 4 f fd ["self", "base", "count"] (spRchoice K) := by
  refine F.ok scRchoice (fun vs H Q E h => ?_) (fun cdv A outer s H vs Q E hr h => ?_)
  · obtain ⟨x, a, ca, b, v, c, n, D, rfl, _⟩ := h
    rfl
  · obtain ⟨x, a, ca, b, v, c, n, D, rfl, R, hc, hv, en, hn, hb, k⟩ := h
    refine ⟨_, pss_cons (ps_set (i := 3) scRchoice.nd rfl (Or.inl rfl) (C8.pe_c cCh hr (by decide) rfl (pa_cons (pv 1) (pa_cons (pv 2) pa_nil))))
      (pss_cons (ps_set (i := 4) scRchoice.nd rfl (Or.inl rfl) pe_int)
      (pss_cons (ps_for PassesOwn.never rfl (pi_range1 rfl T.range (pa_cons (pv 3) pa_nil)) (pg_name (i := 5) scRchoice.nd rfl (Or.inl rfl))
        (pss_one (ps_set (i := 4) scRchoice.nd rfl (Or.inl rfl) (pe_op op_add (pe_op op_mul pe_int (pv 4)) (C8.pe_mt mRd hr (by decide) (pe_fld (pv 0) rfl) (pa_cons (pe_op op_sub (pe_op op_add (pv 1) (pv 4)) pe_int) pa_nil))))))
      (pss_one (ps_ret (pe_callB (call_min2 rfl) (by rfl) T.min (by decide +kernel) (pa_cons (pe_op op_sub (pv 4) (pe_op op_oneShl pe_int (pv 3))) (pa_cons (pe_op op_sub (pv 2) pe_int) pa_nil))))))), ?_⟩
    refine ⟨_, rfl, _, rfl, b, c, n, rfl, hc, en, hn.1, hb, ?_⟩
    refine ⟨_, rfl, (n : Int), rfl, by omega, by omega, ?_⟩
    rw [show ((n : Int)).toNat = n by omega]
    refine for_range (n := n) (fun i σ H' => ∃ (node : Int) (v5 : Option V), σ = [some (.ref x), some (.int b), some (.int c), some (.int (n : Int)), some (.int node), v5] ∧ QAt K H' x a ca (Thm.chD b v node (n - i) ++ D) ∧ Frm a ca H H' ∧ node = 2 ^ i + v / 2 ^ (n - i))
      ⟨1, none, rfl, R, Frm.refl H, Thm.one_node v hv.1 (by omega)⟩ ?_ ?_
    · rintro i σ H' hi ⟨node, v5, rfl, R', fr, hnode⟩
      obtain ⟨dr, rd⟩ := R'.rd
      obtain ⟨dx, fs, ob, l1, l2⟩ := R'.de.ob
      have hb2 : 0 ≤ b ∧ b + 2 ^ n ≤ 257 := by
        rcases hb with e | e
        · omega
        · exact e
      have hcx := Thm.node_cx hi hv.1 (by omega : v < 2 ^ n) hb2 hnode
      have de := R'.de
      rw [show n - i = (n - 1 - i) + 1 by omega, Thm.chD, List.cons_append] at de
      refine ⟨_, rfl, _, _, rfl, rfl, .inl ⟨by decide, by decide⟩, _, rfl, x, _, dr, _, _, rfl, rd, T.clR, T.nRd, rfl, a, dx, _, rfl, ob, l1, _, rfl, _, rfl, _, _, rfl, rfl, _, _, rfl, rfl, a, ca, _, _, _, rfl, de, hcx, fun H1 R1 fr1 => ?_⟩
      refine ⟨_, _, rfl, rfl, ?_⟩
      refine ⟨_, _, rfl, ?_, fr.trans fr1, Thm.node_next hi hnode⟩
      rw [show n - (i + 1) = n - 1 - i by omega]
      exact R'.frm fr1 R1
    · rintro σ H' ⟨node, v5, rfl, R', fr, hnode⟩
      have e := Thm.node_end hnode
      rw [Nat.sub_self] at R'
      refine ⟨_, rfl, _, rfl, n, rfl, rfl, by omega, _, _, rfl, rfl, _, rfl, _, _, rfl, rfl, _, _, rfl, ?_⟩
      rw [e, if_neg (by omega)]
      exact k H' R' fr
/-! ### unary -/
def spRunary (K : PySem.W.Frag) : Sp := fun vs H Q _ => ∃ (x a ca : Addr) (b v m : Int) (D : List Thm.Dc), vs = [.ref x, .int b, .int m] ∧ QAt K H x a ca (Thm.unD b v m ++ D) ∧ (0 ≤ m ∧ m ≤ 64) ∧ (0 ≤ v ∧ v ≤ m) ∧ Thm.UnCx b m ∧
  ∀ H', QAt K H' x a ca D → Frm a ca H H' → Q (.int v) H'
theorem scRunary : FnScope ["self", "base", "most", "value"] ["self", "base", "most"] (defScope sRunary) := ⟨rfl, rfl, rfl, by decide +kernel, rfl, by decide +kernel, by decide +kernel⟩
theorem okRunary {f : Addr} {fd : FuncData} (F : Fun K "unary" "SymbolReader.unary" sRunary f fd) (T : Txt K mg) (cUn : C8.Cal P w K mg base 2 "check_unary" spCun []) (mRd : C8.Met P w K mg base 3 (cD K) "read" (spDread K) []) : FnOk P w K mg base CX0 4 f fd ["self", "base", "most"] (spRunary K) := by
  refine F.ok scRunary (fun vs H Q E h => ?_) (fun cdv A outer s H vs Q E hr h => ?_)
  · obtain ⟨x, a, ca, b, v, m, D, rfl, _⟩ := h
    rfl
  · obtain ⟨x, a, ca, b, v, m, D, rfl, R, hm, hv, hb, k⟩ := h
    refine ⟨_, pss_cons (ps_expr (C8.pe_c cUn hr (by decide) rfl (pa_cons (pv 1) (pa_cons (pv 2) pa_nil))))
      (pss_cons (ps_set (i := 3) scRunary.nd rfl (Or.inl rfl) pe_int)
      (pss_cons (ps_while PassesOwn.never (PW.pt (pw_and (pt_cmpR op_lt (pv 3) (pv 2) (nomark _)) (pw_and1 (pt_cmpR op_eq (C8.pe_mt mRd hr (by decide) (pe_fld (pv 0) rfl)
          (pa_cons (pe_op op_add (pv 1) (pe_callB (call_min2 rfl) (by rfl) T.min (by decide +kernel) (pa_cons (pv 3) (pa_cons pe_int pa_nil)))) pa_nil)) pe_int (nomark _)))))
        (pss_one (ps_aug (i := 3) scRunary.nd rfl (Or.inl rfl) pe_int ip_add)))
      (pss_one (ps_ret (pv 3))))), ?_⟩
    refine ⟨_, rfl, _, rfl, b, m, rfl, hm, hb, ?_⟩
    refine ⟨fun q σ H' => ∃ i : Nat, q = v.toNat - i ∧ (i : Int) ≤ v ∧ σ = [some (.ref x), some (.int b), some (.int m), some (.int (i : Int))] ∧ QAt K H' x a ca (Thm.ones b (i : Int) (v.toNat - i) ++ Thm.unT b v m ++ D) ∧ Frm a ca H H', ⟨v.toNat, 0, rfl, hv.1, rfl, R, Frm.refl H⟩, ?_⟩
    rintro q σ H' ⟨i, rfl, hi, rfl, R', fr⟩
    obtain ⟨dr, rd⟩ := R'.rd
    obtain ⟨dx, fs, ob, l1, l2⟩ := R'.de.ob
    have de := R'.de
    refine ⟨_, rfl, _, rfl, _, _, rfl, rfl, _, rfl, iteB (fun hlt => ?_) (fun hge => ?_)⟩
    · have hcx := Thm.un_cx hb (i := (i : Int)) (by omega) hlt
      refine ⟨_, rfl, x, _, dr, _, _, rfl, rd, T.clR, T.nRd, rfl, a, dx, _, rfl, ob, l1, _, rfl, _, rfl, _, _, rfl, _, _, rfl, rfl, a, ca, _, if (i : Int) < v then 1 else 0, if (i : Int) < v then Thm.ones b ((i + 1 : Nat) : Int) (v.toNat - (i + 1)) ++ Thm.unT b v m ++ D else D, rfl, ?_, hcx, fun H1 R1 fr1 => ⟨rfl, _, rfl, ?_⟩⟩
      · by_cases hiv : (i : Int) < v
        · rw [if_pos hiv, if_pos hiv]
          rw [Thm.un_at hv.1 hiv] at de
          exact de
        · rw [if_neg hiv, if_neg hiv]
          have e : (i : Int) = v := by omega
          rw [show v.toNat - i = 0 by omega] at de
          unfold Thm.unT at de
          rw [if_pos (by omega : v < m)] at de
          rw [e]
          exact de
      · by_cases hiv : (i : Int) < v
        · rw [if_pos hiv] at R1 ⊢
          refine iteT ⟨fun σ2 H2 => σ2 = [some (.ref x), some (.int b), some (.int m), some (.int ((i + 1 : Nat) : Int))] ∧ H2 = H1, ?_, ?_⟩
          · rintro σ2 H2 ⟨rfl, rfl⟩
            exact ⟨v.toNat - (i + 1), by omega, i + 1, rfl, by omega, rfl, R'.frm fr1 R1, fr.trans fr1⟩
          · exact ⟨_, rfl, _, _, rfl, rfl, rfl, rfl⟩
        · rw [if_neg hiv] at R1 ⊢
          refine iteF ?_
          have e : (i : Int) = v := by omega
          refine ⟨_, rfl, ?_⟩
          rw [e]
          exact k H1 (R'.frm fr1 R1) (fr.trans fr1)
    · refine iteF ?_
      have e : (i : Int) = v := by omega
      rw [show v.toNat - i = 0 by omega] at de
      unfold Thm.unT at de
      rw [if_neg (by omega : ¬ v < m)] at de
      refine ⟨_, rfl, ?_⟩
      rw [e]
      exact k H' (R'.frm (Frm.refl H') de) fr
end
end Th
namespace Th
open PySem PySem.Spec PyProof.Rows L2
section
variable {P : Program} {w : World} {K : PySem.W.Frag} {mg : Str → Option Value} {base : Heap}
/-! ### number -/
def spRnumber (K : PySem.W.Frag) : Sp := fun vs H Q _ => ∃ (x a ca : Addr) (b v : Int) (n : Nat) (D : List Thm.Dc), vs = [.ref x, .int b] ∧ QAt K H x a ca (Thm.nuD b v n ++ D) ∧ (0 ≤ b ∧ b ≤ 240) ∧ (0 ≤ v ∧ v ≤ 1048576) ∧ Thm.Digs (v + 1) n ∧
  ∀ H', QAt K H' x a ca D → Frm a ca H H' → Q (.int v) H'
theorem scRnumber : FnScope ["self", "base", "digits", "value", "place"] ["self", "base"] (defScope sRnumber) := ⟨rfl, rfl, rfl, by decide +kernel, rfl, by decide +kernel, by decide +kernel⟩
theorem okRnumber {f : Addr} {fd : FuncData} (F : Fun K "number" "SymbolReader.number" sRnumber f fd) (T : Txt K mg) (cXs : C8.Cal P w K mg base 1 "check_contexts" spCxs [])
    (mUn : MetN P w K mg base 4 (cR K) "unary" (spRunary K) 2 ["most"]) (mRd : C8.Met P w K mg base 3 (cD K) "read" (spDread K) []) (mRe : C8.Met P w K mg base 3 (cD K) "read_even" (spDeven K) []) : FnOk P w K mg base CX0 5 f fd ["self", "base"] (spRnumber K) := by
  refine F.ok scRnumber (fun vs H Q E h => ?_) (fun cdv A outer s H vs Q E hr h => ?_)
  · obtain ⟨x, a, ca, b, v, n, D, rfl, _⟩ := h
    rfl
  · obtain ⟨x, a, ca, b, v, n, D, rfl, R, hb, hv, dg, k⟩ := h
    have hn21 := dg.le hv.2
    have hn1 := dg.pos
    refine ⟨_, pss_cons (ps_expr (C8.pe_c cXs hr (by decide) rfl (pa_cons (pv 1) (pa_cons pe_int pa_nil))))
      (pss_cons (ps_set (i := 2) scRnumber.nd rfl (Or.inl rfl) (pe_op op_add (pe_mtN mUn hr (by decide) (pv 0) (pa_cons (pv 1) pa_nil) (pk_cons (pe_gi T.prefx) pk_nil)) pe_int))
      (pss_cons (ps_set (i := 3) scRnumber.nd rfl (Or.inl rfl) pe_int)
      (pss_cons (ps_for PassesOwn.never rfl (pi_range3 rfl T.range (pa_cons (pe_op op_sub (pv 2) pe_int) (pa_cons (pe_un un_neg pe_int) (pa_cons (pe_un un_neg pe_int) pa_nil)))) (pg_name (i := 4) scRnumber.nd rfl (Or.inl rfl))
        (pss_one (ps_if (pt_cmpR op_eq (pv 4) (pe_op op_sub (pv 2) pe_int) (nomark _))
          (pss_one (ps_set (i := 3) scRnumber.nd rfl (Or.inl rfl) (pe_op op_add (pe_op op_mul pe_int (pv 3)) (C8.pe_mt mRd hr (by decide) (pe_fld (pv 0) rfl) (pa_cons (pe_op op_add (pe_op op_add (pv 1) pe_int) (pe_callB (call_min2 rfl) (by rfl) T.min (by decide +kernel) (pa_cons (pe_op op_sub (pv 2) pe_int) (pa_cons pe_int pa_nil)))) pa_nil)))))
          (pss_one (ps_set (i := 3) scRnumber.nd rfl (Or.inl rfl) (pe_op op_add (pe_op op_mul pe_int (pv 3)) (C8.pe_mt0 mRe hr (by decide) (pe_fld (pv 0) rfl))))))))
      (pss_one (ps_ret (pe_callB (call_min2 rfl) (by rfl) T.min (by decide +kernel) (pa_cons (pe_op op_sub (pv 3) pe_int) (pa_cons (pe_gi T.maxn) pa_nil)))))))), ?_⟩
    refine ⟨_, rfl, b, _, rfl, hb.1, by omega, ?_⟩
    obtain ⟨dr0, rd0⟩ := R.rd
    have de0 := R.de
    unfold Thm.nuD at de0
    rw [List.append_assoc] at de0
    refine ⟨_, rfl, x, dr0, _, rfl, rd0, rfl, _, rfl, rfl, rfl, x, a, ca, b, (n : Int) - 1, 20, _, rfl, R.frm (Frm.refl H) de0, ⟨by decide, by decide⟩, ⟨by omega, by omega⟩, Thm.nu_un hb, fun H0 R0 fr0 => ?_⟩
    refine ⟨_, _, rfl, rfl, ?_⟩
    dsimp only
    rw [show (n : Int) - 1 + 1 = (n : Int) by omega]
    have eN : ((n : Int) - 2 - -1).toNat = n - 1 := by omega
    have hrg : RgC ((n : Int) - 2) (-1) (-1) (n - 1) := by
      have z := RgC.neg (i := (n : Int) - 2) (j := -1) (by omega) (by omega) (by decide) (by decide)
      rw [eN] at z
      exact z
    refine ⟨_, rfl, _, _, rfl, rfl, _, rfl, _, rfl, (n : Int) - 2, -1, -1, n - 1, rfl, hrg, ?_⟩
    refine for_rangeC (n := n - 1) (fun i σ H' => ∃ (z : Int) (v4 : Option V), σ = [some (.ref x), some (.int b), some (.int (n : Int)), some (.int z), v4] ∧ QAt K H' x a ca (Thm.nuT b (v + 1) n (n - 1 - i) ++ D) ∧ Frm a ca H H' ∧ z = (v + 1) / 2 ^ (n - 1 - i))
      ⟨1, none, rfl, R0, fr0, (Thm.nu_start dg).symm⟩ ?_ ?_
    · rintro i σ H' hi ⟨z, v4, rfl, R', fr, hz⟩
      obtain ⟨p, hp⟩ : ∃ p, n = p + 2 + i := ⟨n - 2 - i, by omega⟩
      have ep : ((n : Int) - 2 + (i : Nat) * -1) = ((p : Nat) : Int) := by omega
      rw [ep]
      obtain ⟨dr, rd⟩ := R'.rd
      obtain ⟨dx, fs, ob, l1, l2⟩ := R'.de.ob
      have de := R'.de
      rw [show n - 1 - i = p + 1 by omega] at de hz
      rw [Thm.nuT, List.cons_append] at de
      refine ⟨_, rfl, _, rfl, _, _, rfl, rfl, rfl, _, rfl, iteE (fun e => ?_) (fun e => ?_)⟩
      · rw [if_pos (show p + 2 = n by omega)] at de
        refine ⟨_, rfl, _, _, rfl, rfl, .inl ⟨by decide, by decide⟩, _, rfl, x, _, dr, _, _, rfl, rd, T.clR, T.nRd, rfl, a, dx, _, rfl, ob, l1, _, rfl, _, _, rfl, rfl, _, rfl, _, _, rfl, rfl, _, _, rfl, _, _, rfl, rfl, a, ca, _, _, _, rfl, de, Thm.nu_cx hb (by omega), fun H1 R1 fr1 => ?_⟩
        refine ⟨_, _, rfl, rfl, _, _, rfl, ?_, fr.trans fr1, ?_⟩
        · rw [show n - 1 - (i + 1) = p by omega]
          exact R'.frm fr1 R1
        · rw [show n - 1 - (i + 1) = p by omega, hz]
          exact Thm.nu_next (v + 1) p
      · rw [if_neg (show ¬ p + 2 = n by omega)] at de
        refine ⟨_, rfl, _, _, rfl, rfl, .inl ⟨by decide, by decide⟩, _, rfl, x, _, dr, _, _, rfl, rd, T.clR, T.nRd, rfl, a, dx, _, rfl, ob, l2, a, ca, _, _, rfl, de, fun H1 R1 fr1 => ?_⟩
        refine ⟨_, _, rfl, rfl, _, _, rfl, ?_, fr.trans fr1, ?_⟩
        · rw [show n - 1 - (i + 1) = p by omega]
          exact R'.frm fr1 R1
        · rw [show n - 1 - (i + 1) = p by omega, hz]
          exact Thm.nu_next (v + 1) p
    · rintro σ H' ⟨z, v4, rfl, R', fr, hz⟩
      rw [Nat.sub_self] at R' hz
      rw [Int.pow_zero, Int.ediv_one] at hz
      refine ⟨_, rfl, _, _, rfl, rfl, _, _, rfl, ?_⟩
      rw [if_neg (by omega), show z - 1 = v by omega]
      exact k H' R' fr
/-! ### signed -/
def spRsigned (K : PySem.W.Frag) : Sp := fun vs H Q _ => ∃ (x a ca : Addr) (b v : Int) (n : Nat) (D : List Thm.Dc), vs = [.ref x, .int b] ∧ QAt K H x a ca (Thm.sgD b v n ++ D) ∧ (0 ≤ b ∧ b ≤ 240) ∧ (-1048576 ≤ v ∧ v ≤ 1048576) ∧ Thm.Digs (Thm.ab v + 1) n ∧
  ∀ H', QAt K H' x a ca D → Frm a ca H H' → Q (.int v) H'
theorem scRsigned : FnScope ["self", "base", "value"] ["self", "base"] (defScope sRsigned) := ⟨rfl, rfl, rfl, by decide +kernel, rfl, by decide +kernel, by decide +kernel⟩
theorem okRsigned {f : Addr} {fd : FuncData} (F : Fun K "signed" "SymbolReader.signed" sRsigned f fd) (T : Txt K mg) (mNu : C8.Met P w K mg base 5 (cR K) "number" (spRnumber K) [])
    (mRe : C8.Met P w K mg base 3 (cD K) "read_even" (spDeven K) []) : FnOk P w K mg base CX0 6 f fd ["self", "base"] (spRsigned K) := by
  refine F.ok scRsigned (fun vs H Q E h => ?_) (fun cdv A outer s H vs Q E hr h => ?_)
  · obtain ⟨x, a, ca, b, v, n, D, rfl, _⟩ := h
    rfl
  · obtain ⟨x, a, ca, b, v, n, D, rfl, R, hb, hv, dg, k⟩ := h
    obtain ⟨dr0, rd0⟩ := R.rd
    have de0 := R.de
    unfold Thm.sgD at de0
    rw [List.append_assoc] at de0
    refine ⟨_, pss_cons (ps_set (i := 2) scRsigned.nd rfl (Or.inl rfl) (C8.pe_mt mNu hr (by decide) (pv 0) (pa_cons (pv 1) pa_nil)))
      (pss_cons (ps_if (PW.pt (pw_and (pt_cmpR op_ne (pv 2) pe_int (nomark _)) (pw_and1 (pt_cmpR op_eq (C8.pe_mt0 mRe hr (by decide) (pe_fld (pv 0) rfl)) pe_int (nomark _))))) (pss_one (ps_ret (pe_un un_neg (pv 2)))) pss_nil)
      (pss_one (ps_ret (pv 2)))), ?_⟩
    refine ⟨_, rfl, x, dr0, _, rfl, rd0, rfl, _, rfl, x, a, ca, b, Thm.ab v, n, _, rfl, R.frm (Frm.refl H) de0, hb, Thm.ab_le hv, dg, fun H0 R0 fr0 => ?_⟩
    obtain ⟨dr, rd⟩ := R0.rd
    obtain ⟨dx, fs, ob, l1, l2⟩ := R0.de.ob
    have de := R0.de
    unfold Thm.sgT at de
    have ea : Thm.ab v = if v < 0 then -v else v := rfl
    refine ⟨_, rfl, rfl, _, rfl, iteM (fun e => ?_) (fun e => ?_)⟩
    · have hv0 : ¬ v = 0 := fun z => e (by rw [z]; rfl)
      rw [if_neg hv0, List.singleton_append] at de
      refine ⟨_, rfl, x, _, dr, _, _, rfl, rd, T.clR, T.nRd, rfl, a, dx, _, rfl, ob, l2, a, ca, _, _, rfl, de, fun H1 R1 fr1 => ⟨rfl, _, rfl, ?_⟩⟩
      by_cases hlt : v < 0
      · rw [if_pos hlt]
        refine iteT ⟨_, rfl, _, rfl, ?_⟩
        rw [ea, if_pos hlt]
        show Q (V.int (- -v)) H1
        rw [show - -v = v by omega]
        exact k H1 (R0.frm fr1 R1) (fr0.trans fr1)
      · rw [if_neg hlt]
        refine iteF ⟨_, rfl, ?_⟩
        rw [ea, if_neg hlt]
        exact k H1 (R0.frm fr1 R1) (fr0.trans fr1)
    · have hv0 : v = 0 := by
        rw [ea] at e
        split at e <;> omega
      rw [if_pos hv0, List.nil_append] at de
      refine iteF ⟨_, rfl, ?_⟩
      rw [e, ← hv0]
      exact k H0 (R0.frm (Frm.refl H0) de) fr0
end
end Th
namespace Th
open PySem PySem.Spec PyProof.Rows L2
/-! ### draws within limits -/
def Bd : List Int → List Int → Prop
  | [], [] => True
  | d :: ds, l :: ls => (0 ≤ d ∧ d < l) ∧ Bd ds ls
  | _, _ => False
theorem Bd.snoc {d l : Int} (h : 0 ≤ d ∧ d < l) : ∀ {ds ls : List Int}, Bd ds ls → Bd (ds ++ [d]) (ls ++ [l])
  | [], [], _ => ⟨h, trivial⟩
  | _ :: _, _ :: _, ⟨a, b⟩ => ⟨a, Bd.snoc h b⟩
  | [], _ :: _, z => z.elim
  | _ :: _, [], z => z.elim
theorem Bd.length : ∀ {ds ls : List Int}, Bd ds ls → ds.length = ls.length
  | [], [], _ => rfl
  | _ :: _, _ :: _, ⟨_, b⟩ => congrArg Nat.succ (Bd.length b)
  | [], _ :: _, z => z.elim
  | _ :: _, [], z => z.elim
theorem take_snoc {ls : List Int} {i : Nat} {l : Int} (h : ls[i]? = some l) : ls.take (i + 1) = ls.take i ++ [l] := by
  obtain ⟨hl, e⟩ := List.getElem?_eq_some_iff.mp h
  rw [List.take_succ, h]
  rfl
theorem mod_in {a l : Int} (h : 0 < l) : 0 ≤ a % l ∧ a % l < l := ⟨Int.emod_nonneg a (by omega), Int.emod_lt_of_pos a h⟩
section
variable {P : Program} {w : World} {K : PySem.W.Frag} {mg : Str → Option Value} {base : Heap}
def spDraws : Sp := fun vs H Q _ => ∃ (c : Int) (l : Addr) (ls : List Int), vs = [.int c, .ref l] ∧ H l = some (.lst (ls.map V.int)) ∧ (∀ m ∈ ls, 0 < m ∧ m < 1073741824) ∧ ls.length ≤ 100 ∧
  ∀ (p : Addr) (H' : Hp) (ds : List Int), H p = none → Same H H' → Bd ds ls → H' p = some (.lst (ds.map V.int)) → Q (.ref p) H'
theorem scDraws : FnScope ["_law_cell_here", "_law_limits", "_law_found", "_law_rest", "_law_state", "_law_free", "_law_limit"] ["_law_cell_here", "_law_limits"] (defScope sDraws) := ⟨rfl, rfl, rfl, by decide +kernel, rfl, by decide +kernel, by decide +kernel⟩
theorem okDraws {f : Addr} {fd : FuncData} (F : Fun K "_law_draws" "_law_draws" sDraws f fd) (T : Txt K mg) : FnOk P w K mg base CX0 1 f fd ["_law_cell_here", "_law_limits"] spDraws := by
  refine F.ok scDraws (fun vs H Q E h => ?_) (fun cdv A outer s H vs Q E hr h => ?_)
  · obtain ⟨c, l, ls, rfl, _⟩ := h
    rfl
  · obtain ⟨c, l, ls, rfl, hl, hm, hlen, k⟩ := h
    refine ⟨_, pss_cons (ps_set (i := 2) scDraws.nd rfl (Or.inl rfl) (pe_lst pa_nil))
      (pss_cons (ps_set (i := 3) scDraws.nd rfl (Or.inl rfl) (pe_callB call_abs (by rfl) T.abs (by decide +kernel) (pa_cons (pe_callTy call_int1 (by rfl) T.int (by decide +kernel) (pa_cons (pv 0) pa_nil)) pa_nil)))
      (pss_cons (ps_set (i := 4) scDraws.nd rfl (Or.inl rfl) (pe_op op_mod (pe_callTy call_int1 (by rfl) T.int (by decide +kernel) (pa_cons (pv 3) pa_nil)) pe_int))
      (pss_cons (ps_set (i := 5) scDraws.nd rfl (Or.inl rfl) (pe_or (pe_cmpR op_lt (pv 0) pe_int (nomark _)) (pe_one (pe_cmpR op_ge (pv 0) (pe_op op_pow pe_int pe_int) (nomark _)))))
      (pss_cons (ps_for PassesOwn.never rfl (pi_list (pv 1)) (pg_name (i := 6) scDraws.nd rfl (Or.inl rfl))
        (pss_one (ps_if (PW.pt (pw_and (pt_val (pv 5)) (pw_and1 (pt_cmpR op_gt (pv 3) pe_int (nomark _)))))
          (pss_cons (ps_expr (pe_bm PySem.F.plainAttrs_list PySem.F.slot_list_append PySem.F.type_list_append mt_append (pv 2) (pa_cons (pe_op op_mod (pe_callTy call_int1 (by rfl) T.int (by decide +kernel) (pa_cons (pv 3) pa_nil)) (pv 6)) pa_nil)))
            (pss_one (ps_set (i := 3) scDraws.nd rfl (Or.inl rfl) (pe_op op_fdiv (pv 3) (pv 6)))))
          (pss_cons (ps_set (i := 4) scDraws.nd rfl (Or.inl rfl) (pe_op op_mod (pe_callTy call_int1 (by rfl) T.int (by decide +kernel) (pa_cons (pe_op op_add (pe_op op_mul (pv 4) pe_int) pe_int) pa_nil)) pe_int))
            (pss_cons (ps_set (i := 4) scDraws.nd rfl (Or.inl rfl) (pe_op op_mod (pe_callTy call_int1 (by rfl) T.int (by decide +kernel) (pa_cons (pe_op op_add (pe_op op_mul (pv 4) pe_int) pe_int) pa_nil)) pe_int))
            (pss_one (ps_expr (pe_bm PySem.F.plainAttrs_list PySem.F.slot_list_append PySem.F.type_list_append mt_append (pv 2) (pa_cons (pe_op op_mod (pe_callTy call_int1 (by rfl) T.int (by decide +kernel) (pa_cons (pe_op op_fdiv (pv 4) pe_int) pa_nil)) (pv 6)) pa_nil)))))))))
      (pss_one (ps_ret (pv 2))))))), ?_⟩
    refine ⟨Nat.zero_le _, fun p hp => ?_⟩
    have npl : l ≠ p := ne_of_none hl hp
    refine ⟨_, rfl, .inl ⟨_, rfl, _, rfl, ?_⟩⟩
    refine ⟨_, rfl, .inl ⟨_, rfl, _, _, rfl, rfl, (by show (0 : Int) < 2147483647; decide), ?_⟩⟩
    refine ⟨_, rfl, _, _, rfl, rfl, _, rfl, iteB (fun _ => ?_) (fun _ => ⟨_, rfl, _, _, rfl, rfl, ⟨by decide, by decide, by decide⟩, _, _, rfl, rfl, ?_⟩)⟩
    all_goals
      refine ⟨_, rfl, l, rfl, ⟨_, SqL.of (by rw [upd_ne npl]; exact hl)⟩, for_list (K := K) (a := l) (xs := ls.map V.int)
        (fun i σ H' => ∃ (r z : Int) (fr : Bool) (acc : List Int) (v : Option V), σ = [some (.int c), some (.ref l), some (.ref p), some (.int r), some (.int z), some (.bl fr), v] ∧ H' p = some (.lst (acc.map V.int)) ∧ Bd acc (ls.take i) ∧ Same H H')
        ⟨_, _, _, [], none, rfl, upd_same, trivial, same_upd (Same.refl H) hp⟩ (fun i σ H' _ ⟨_, _, _, _, _, _, _, _, sm⟩ => SqL.of (sm _ _ hl)) ?_ ?_⟩
      · rintro i y σ H' hi ⟨r, z, fr, acc, v, rfl, hL, hB, sm⟩
        obtain ⟨m, hm1, rfl⟩ : ∃ m, ls[i]? = some m ∧ y = V.int m := by
          rw [List.getElem?_map] at hi
          cases e : ls[i]? with
          | none =>
            rw [e] at hi
            cases hi
          | some u =>
            rw [e] at hi
            exact ⟨u, rfl, (Option.some.inj hi).symm⟩
        obtain ⟨m0, m1⟩ := hm m (List.mem_of_getElem? hm1)
        have hlt := (List.getElem?_eq_some_iff.mp hm1).1
        have hacc : (acc.map V.int).length < sizeLine := by
          rw [List.length_map, hB.length, List.length_take]
          exact Nat.lt_of_lt_of_le (show min i ls.length < 200 by omega) (by decide)
        have fin : ∀ (r' z' d : Int) (H2 : Hp), H2 = upd H' p (.lst (acc.map V.int ++ [V.int d])) → (0 ≤ d ∧ d < m) → ∃ (r z : Int) (fr' : Bool) (acc : List Int) (v : Option V), [some (V.int c), some (.ref l), some (.ref p), some (.int r'), some (.int z'), some (.bl fr), some (.int m)] = [some (.int c), some (.ref l), some (.ref p), some (.int r), some (.int z), some (.bl fr'), v] ∧ H2 p = some (.lst (acc.map V.int)) ∧ Bd acc (ls.take (i + 1)) ∧ Same H H2 := by
          rintro r' z' d H2 rfl hd
          refine ⟨r', z', fr, acc ++ [d], _, rfl, ?_, ?_, same_upd sm hp⟩
          · rw [upd_same, List.map_append]
            rfl
          · rw [take_snoc hm1]
            exact hB.snoc hd
        refine ⟨_, rfl, fr, rfl, ?_⟩
        cases fr with
        | true =>
          refine iteT ⟨_, rfl, _, _, rfl, rfl, _, rfl, iteB (fun _ => ?_) (fun _ => ?_)⟩
          · refine ⟨_, rfl, .inl ⟨rfl, _, SqL.of hL⟩, _, rfl, .inl ⟨_, rfl, _, rfl, _, _, rfl, rfl, m0, p, _, _, rfl, rfl, hL, hacc, ?_⟩⟩
            exact ⟨_, rfl, _, rfl, _, _, rfl, rfl, ⟨m0, m1⟩, fin _ _ _ _ rfl (mod_in m0)⟩
          · refine ⟨_, rfl, _, _, rfl, rfl, .inr ⟨by decide, by decide⟩, _, _, rfl, rfl, .inl ⟨_, rfl, _, _, rfl, rfl, (by show (0 : Int) < 2147483647; decide), ?_⟩⟩
            refine ⟨_, rfl, _, _, rfl, rfl, .inr ⟨by decide, by decide⟩, _, _, rfl, rfl, .inl ⟨_, rfl, _, _, rfl, rfl, (by show (0 : Int) < 2147483647; decide), ?_⟩⟩
            exact ⟨_, rfl, .inl ⟨rfl, _, SqL.of hL⟩, _, rfl, _, _, rfl, rfl, ⟨by decide, by decide⟩, .inl ⟨_, rfl, _, rfl, _, _, rfl, rfl, m0, p, _, _, rfl, rfl, hL, hacc, fin _ _ _ _ rfl (mod_in m0)⟩⟩
        | false =>
          refine iteF ?_
          refine ⟨_, rfl, _, _, rfl, rfl, .inr ⟨by decide, by decide⟩, _, _, rfl, rfl, .inl ⟨_, rfl, _, _, rfl, rfl, (by show (0 : Int) < 2147483647; decide), ?_⟩⟩
          refine ⟨_, rfl, _, _, rfl, rfl, .inr ⟨by decide, by decide⟩, _, _, rfl, rfl, .inl ⟨_, rfl, _, _, rfl, rfl, (by show (0 : Int) < 2147483647; decide), ?_⟩⟩
          exact ⟨_, rfl, .inl ⟨rfl, _, SqL.of hL⟩, _, rfl, _, _, rfl, rfl, ⟨by decide, by decide⟩, .inl ⟨_, rfl, _, rfl, _, _, rfl, rfl, m0, p, _, _, rfl, rfl, hL, hacc, fin _ _ _ _ rfl (mod_in m0)⟩⟩
      · rintro σ H' ⟨r, z, fr, acc, v, rfl, hL, hB, sm⟩
        rw [List.length_map, List.take_length] at hB
        exact ⟨_, rfl, k p H' acc hp sm hB hL⟩
end
end Th
namespace Th
open PySem PySem.Spec PyProof.Rows L2
/-! ### a symbol that the law builds -/
structure SyG (s : Thm.Sy) : Prop where
  ok : Thm.SyOk s
  n1 : s.k = 1 → s.n = nb (s.c - 1)
  n3 : s.k = 3 → s.n = nb (s.v + 1)
  n4 : s.k = 4 → s.n = nb (Thm.ab s.v + 1)
theorem nb_zero : nb 0 = 0 := rfl
theorem nb_choice {c : Int} (h : 1 ≤ c ∧ c ≤ 16) : nb (c - 1) ≤ 4 ∧ c ≤ 2 ^ nb (c - 1) := by
  by_cases e : c = 1
  · subst e
    exact ⟨by decide, by decide⟩
  · have dg := digs_nb (m := c - 1) (by omega)
    have hi := dg.hi
    refine ⟨?_, by omega⟩
    by_cases q : nb (c - 1) ≤ 4
    · exact q
    · exfalso
      have a := Thm.pow_le_pow2 (i := 4) (w := nb (c - 1) - 1) (by omega)
      have lo := dg.lo
      have e4 : (2 : Int) ^ 4 = 16 := by decide
      omega
theorem nb_pos {c : Int} (h : 2 ≤ c) : 1 ≤ nb (c - 1) := (digs_nb (m := c - 1) (by omega)).pos
theorem pw4 {n : Nat} (h : n ≤ 4) : (2 : Int) ^ n ≤ 16 := by
  have := Thm.pow_le_pow2 (i := n) (w := 4) h
  have e4 : (2 : Int) ^ 4 = 16 := by decide
  omega
theorem pw1 {n : Nat} (h : 1 ≤ n) : (2 : Int) ≤ 2 ^ n := by
  have := Thm.pow_le_pow2 (i := 1) (w := n) h
  have e1 : (2 : Int) ^ 1 = 2 := by decide
  omega
theorem syg0 {s : Thm.Sy} (hk : s.k = 0) (h : (0 ≤ s.b ∧ s.b ≤ 255) ∧ (s.v = 0 ∨ s.v = 1)) : SyG s :=
  ⟨⟨⟨by omega, by omega⟩, fun _ => h, fun z => absurd (hk.symm.trans z) (by decide), fun z => absurd (hk.symm.trans z) (by decide), fun z => absurd (hk.symm.trans z) (by decide), fun z => absurd (hk.symm.trans z) (by decide), fun z => absurd (hk.symm.trans z) (by decide)⟩,
    fun z => absurd (hk.symm.trans z) (by decide), fun z => absurd (hk.symm.trans z) (by decide), fun z => absurd (hk.symm.trans z) (by decide)⟩
theorem syg1 {s : Thm.Sy} (hk : s.k = 1) (h : ((1 ≤ s.c ∧ s.c ≤ 16) ∧ (0 ≤ s.v ∧ s.v < s.c) ∧ (s.n ≤ 4 ∧ s.c ≤ 2 ^ s.n) ∧ (s.n = 0 ∨ (0 ≤ s.b ∧ s.b + 2 ^ s.n ≤ 257))) ∧ s.n = nb (s.c - 1)) : SyG s :=
  ⟨⟨⟨by omega, by omega⟩, fun z => absurd (hk.symm.trans z) (by decide), fun _ => h.1, fun z => absurd (hk.symm.trans z) (by decide), fun z => absurd (hk.symm.trans z) (by decide), fun z => absurd (hk.symm.trans z) (by decide), fun z => absurd (hk.symm.trans z) (by decide)⟩,
    fun _ => h.2, fun z => absurd (hk.symm.trans z) (by decide), fun z => absurd (hk.symm.trans z) (by decide)⟩
theorem syg2 {s : Thm.Sy} (hk : s.k = 2) (h : (0 ≤ s.c ∧ s.c ≤ 64) ∧ (0 ≤ s.v ∧ s.v ≤ s.c) ∧ Thm.UnCx s.b s.c) : SyG s :=
  ⟨⟨⟨by omega, by omega⟩, fun z => absurd (hk.symm.trans z) (by decide), fun z => absurd (hk.symm.trans z) (by decide), fun _ => h, fun z => absurd (hk.symm.trans z) (by decide), fun z => absurd (hk.symm.trans z) (by decide), fun z => absurd (hk.symm.trans z) (by decide)⟩,
    fun z => absurd (hk.symm.trans z) (by decide), fun z => absurd (hk.symm.trans z) (by decide), fun z => absurd (hk.symm.trans z) (by decide)⟩
theorem syg3 {s : Thm.Sy} (hk : s.k = 3) (h : ((0 ≤ s.b ∧ s.b ≤ 240) ∧ (0 ≤ s.v ∧ s.v ≤ 1048576) ∧ Thm.Digs (s.v + 1) s.n) ∧ s.n = nb (s.v + 1)) : SyG s :=
  ⟨⟨⟨by omega, by omega⟩, fun z => absurd (hk.symm.trans z) (by decide), fun z => absurd (hk.symm.trans z) (by decide), fun z => absurd (hk.symm.trans z) (by decide), fun _ => h.1, fun z => absurd (hk.symm.trans z) (by decide), fun z => absurd (hk.symm.trans z) (by decide)⟩,
    fun z => absurd (hk.symm.trans z) (by decide), fun _ => h.2, fun z => absurd (hk.symm.trans z) (by decide)⟩
theorem syg4 {s : Thm.Sy} (hk : s.k = 4) (h : ((0 ≤ s.b ∧ s.b ≤ 240) ∧ (-1048576 ≤ s.v ∧ s.v ≤ 1048576) ∧ Thm.Digs (Thm.ab s.v + 1) s.n) ∧ s.n = nb (Thm.ab s.v + 1)) : SyG s :=
  ⟨⟨⟨by omega, by omega⟩, fun z => absurd (hk.symm.trans z) (by decide), fun z => absurd (hk.symm.trans z) (by decide), fun z => absurd (hk.symm.trans z) (by decide), fun z => absurd (hk.symm.trans z) (by decide), fun _ => h.1, fun z => absurd (hk.symm.trans z) (by decide)⟩,
    fun z => absurd (hk.symm.trans z) (by decide), fun z => absurd (hk.symm.trans z) (by decide), fun _ => h.2⟩
theorem syg5 {s : Thm.Sy} (hk : s.k = 5) (h : s.v = 0 ∨ s.v = 1) : SyG s :=
  ⟨⟨⟨by omega, by omega⟩, fun z => absurd (hk.symm.trans z) (by decide), fun z => absurd (hk.symm.trans z) (by decide), fun z => absurd (hk.symm.trans z) (by decide), fun z => absurd (hk.symm.trans z) (by decide), fun z => absurd (hk.symm.trans z) (by decide), fun _ => h⟩,
    fun z => absurd (hk.symm.trans z) (by decide), fun z => absurd (hk.symm.trans z) (by decide), fun z => absurd (hk.symm.trans z) (by decide)⟩
theorem g_even {d : Int} (h : 0 ≤ d ∧ d < 2) : SyG ⟨5, 0, d, 0, 0⟩ := syg5 rfl (by show d = 0 ∨ d = 1; omega)
theorem g_flag {b d : Int} (hb : 0 ≤ b ∧ b ≤ 255) (h : 0 ≤ d ∧ d < 2) : SyG ⟨0, b, d, 0, 0⟩ := syg0 rfl ⟨hb, by show d = 0 ∨ d = 1; omega⟩
theorem g_choice {b v c : Int} (hc : 1 ≤ c ∧ c ≤ 16) (hv : 0 ≤ v ∧ v < c) (hb : c = 1 ∨ (0 ≤ b ∧ b + 2 ^ nb (c - 1) ≤ 257)) : SyG ⟨1, b, v, c, nb (c - 1)⟩ :=
  syg1 rfl ⟨⟨hc, hv, nb_choice hc, hb.elim (fun e => .inl (by show nb (c - 1) = 0; rw [e] <;> rfl)) .inr⟩, rfl⟩
theorem g_unary {b v c : Int} (hc : 0 ≤ c ∧ c ≤ 64) (hv : 0 ≤ v ∧ v ≤ c) (hb : Thm.UnCx b c) : SyG ⟨2, b, v, c, 0⟩ := syg2 rfl ⟨hc, hv, hb⟩
theorem g_num {k b v : Int} (hk : k = 3 ∧ 0 ≤ v ∨ k = 4) (hb : 0 ≤ b ∧ b ≤ 240) (hv : -1048576 ≤ v ∧ v ≤ 1048576) : SyG ⟨k, b, v, 0, nb (Thm.ab v + 1)⟩ := by
  have e3 : 0 ≤ v → Thm.ab v = v := fun h => by
    unfold Thm.ab
    rw [if_neg (by omega)]
  have ha := Thm.ab_le hv
  rcases hk with ⟨rfl, h0⟩ | rfl
  · refine syg3 rfl ⟨⟨hb, ⟨h0, hv.2⟩, ?_⟩, ?_⟩
    · show Thm.Digs (v + 1) (nb (Thm.ab v + 1))
      rw [e3 h0]
      exact digs_nb (by omega)
    · show nb (Thm.ab v + 1) = nb (v + 1)
      rw [e3 h0]
  · exact syg4 rfl ⟨⟨hb, hv, digs_nb (by show 1 ≤ Thm.ab v + 1; omega)⟩, rfl⟩
/-- an item of a written list at an open place -/
theorem at_mem {ns : List Int} {i : Int} (h0 : 0 ≤ i) (h1 : i < ns.length) : ∃ v, v ∈ ns ∧ atI (ns.map V.int) i = some (.int v) := by
  have hl : i.toNat < ns.length := by omega
  refine ⟨ns[i.toNat], List.getElem_mem hl, ?_⟩
  have e : atI (ns.map V.int) ((i.toNat : Nat) : Int) = some (.int ns[i.toNat]) := atI_nat (by
    rw [List.getElem?_map, List.getElem?_eq_getElem hl]
    rfl)
  rw [Int.toNat_of_nonneg h0] at e
  exact e
def syT (s : Thm.Sy) : HO := .tup [.int s.k, .int s.b, .int s.v, .int s.c]
section
variable {P : Program} {w : World} {K : PySem.W.Frag} {mg : Str → Option Value} {base : Heap}
def spSym : Sp := fun vs H Q _ => ∃ c : Int, vs = [.int c] ∧ ∀ (p : Addr) (H' : Hp) (s : Thm.Sy), H p = none → Same H H' → SyG s → H' p = some (syT s) → Q (.ref p) H'
theorem scSym : FnScope ["_law_cell_here", "_law_draws_here", "_law_kind", "_law_count", "_law_width", "_law_base", "_law_most", "_law_value"] ["_law_cell_here"] (defScope sSym) := ⟨rfl, rfl, rfl, by decide +kernel, rfl, by decide +kernel, by decide +kernel⟩
def lims : List Int := [6, 6, 1048577, 6, 256, 65, 2]
theorem at7 {d0 d1 d2 d3 d4 d5 d6 : Int} : atI [V.int d0, .int d1, .int d2, .int d3, .int d4, .int d5, .int d6] 3 = some (.int d3) := rfl
theorem okSym {f : Addr} {fd : FuncData} (F : Fun K "_law_symbol" "_law_symbol" sSym f fd) (T : Txt K mg) (cDr : C8.Cal P w K mg base 1 "_law_draws" spDraws []) : FnOk P w K mg base CX0 2 f fd ["_law_cell_here"] spSym := by
  refine F.ok scSym (fun vs H Q E h => ?_) (fun cdv A outer s H vs Q E hr h => ?_)
  · obtain ⟨c, rfl, _⟩ := h
    rfl
  · obtain ⟨c, rfl, k⟩ := h
    refine ⟨_, (pss_cons (ps_set (i := 1) scSym.nd rfl (Or.inl rfl) (C8.pe_c cDr hr (by decide) rfl (pa_cons (pv 0) (pa_cons (pe_lst (pa_cons pe_int (pa_cons pe_int (pa_cons (pe_op op_add (pe_op op_pow pe_int pe_int) pe_int) (pa_cons pe_int (pa_cons pe_int (pa_cons pe_int (pa_cons pe_int pa_nil)))))))) pa_nil))))
      (pss_cons (ps_set (i := 2) scSym.nd rfl (Or.inl rfl) (pe_ix ix_list (pv 1) pe_int (fun _ _ => rfl)))
      (pss_cons (ps_if (pt_cmpR op_eq (pv 2) pe_int (nomark _)) (pss_one (ps_ret (pe_tup (pa_cons pe_int (pa_cons pe_int (pa_cons (pe_ix ix_list (pv 1) pe_int (fun _ _ => rfl)) (pa_cons pe_int pa_nil))))))) pss_nil)
      (pss_cons (ps_if (pt_cmpR op_eq (pv 2) pe_int (nomark _)) (pss_one (ps_ret (pe_tup (pa_cons pe_int (pa_cons (pe_ix ix_list (pe_lst (pa_cons pe_int (pa_cons pe_int (pa_cons pe_int (pa_cons pe_int (pa_cons (pe_ix ix_list (pv 1) pe_int (fun _ _ => rfl)) (pa_cons (pe_ix ix_list (pv 1) pe_int (fun _ _ => rfl)) pa_nil))))))) (pe_ix ix_list (pv 1) pe_int (fun _ _ => rfl)) (fun _ _ => rfl)) (pa_cons (pe_ix ix_list (pv 1) pe_int (fun _ _ => rfl)) (pa_cons pe_int pa_nil))))))) pss_nil)
      (pss_cons (ps_if (pt_cmpR op_eq (pv 2) pe_int (nomark _)) (pss_cons (ps_set (i := 3) scSym.nd rfl (Or.inl rfl) (pe_op op_add pe_int (pe_op op_mod (pe_callTy call_int1 (by rfl) T.int (by decide +kernel) (pa_cons (pe_ix ix_list (pv 1) pe_int (fun _ _ => rfl)) pa_nil)) pe_int))) (pss_cons (ps_set (i := 4) scSym.nd rfl (Or.inl rfl) (pe_bits (pe_op op_sub (pv 3) pe_int))) (pss_cons (ps_set (i := 5) scSym.nd rfl (Or.inl rfl) (pe_op op_mod (pe_callTy call_int1 (by rfl) T.int (by decide +kernel) (pa_cons (pe_ix ix_list (pv 1) pe_int (fun _ _ => rfl)) pa_nil)) (pe_op op_sub pe_int (pe_op op_pow pe_int pe_int)))) (pss_cons (ps_if (pt_cmpR op_eq (pe_ix ix_list (pv 1) pe_int (fun _ _ => rfl)) pe_int (nomark _)) (pss_one (ps_set (i := 5) scSym.nd rfl (Or.inl rfl) (pe_op op_sub pe_int (pe_op op_oneShl pe_int (pv 4))))) pss_nil) (pss_cons (ps_if (pt_cmpR op_eq (pv 3) pe_int (nomark _)) (pss_one (ps_ret (pe_tup (pa_cons pe_int (pa_cons (pe_op op_sub (pe_op op_mod (pe_callTy call_int1 (by rfl) T.int (by decide +kernel) (pa_cons (pe_ix ix_list (pv 1) pe_int (fun _ _ => rfl)) pa_nil)) pe_int) pe_int) (pa_cons pe_int (pa_cons pe_int pa_nil))))))) pss_nil) (pss_one (ps_ret (pe_tup (pa_cons pe_int (pa_cons (pe_callB (call_min2 rfl) (by rfl) T.min (by decide +kernel) (pa_cons (pv 5) (pa_cons pe_int pa_nil))) (pa_cons (pe_ix ix_list (pe_lst (pa_cons pe_int (pa_cons (pe_op op_sub (pv 3) pe_int) (pa_cons (pe_op op_mod (pe_callTy call_int1 (by rfl) T.int (by decide +kernel) (pa_cons (pe_ix ix_list (pv 1) pe_int (fun _ _ => rfl)) pa_nil)) (pv 3)) pa_nil)))) (pe_op op_mod (pe_callTy call_int1 (by rfl) T.int (by decide +kernel) (pa_cons (pe_ix ix_list (pv 1) pe_int (fun _ _ => rfl)) pa_nil)) pe_int) (fun _ _ => rfl)) (pa_cons (pv 3) pa_nil)))))))))))) pss_nil)
      (pss_cons (ps_if (pt_cmpR op_eq (pv 2) pe_int (nomark _)) (pss_cons (ps_set (i := 6) scSym.nd rfl (Or.inl rfl) (pe_ix ix_list (pv 1) pe_int (fun _ _ => rfl))) (pss_cons (ps_set (i := 5) scSym.nd rfl (Or.inl rfl) (pe_callB (call_min2 rfl) (by rfl) T.min (by decide +kernel) (pa_cons (pe_callTy call_int1 (by rfl) T.int (by decide +kernel) (pa_cons (pe_ix ix_list (pv 1) pe_int (fun _ _ => rfl)) pa_nil)) (pa_cons (pe_op op_sub pe_int (pe_callB (call_min2 rfl) (by rfl) T.min (by decide +kernel) (pa_cons (pe_callB (call_max2 rfl) (by rfl) T.max (by decide +kernel) (pa_cons (pe_op op_sub (pv 6) pe_int) (pa_cons pe_int pa_nil))) (pa_cons pe_int pa_nil)))) pa_nil)))) (pss_cons (ps_if (pt_cmpR op_eq (pv 6) pe_int (nomark _)) (pss_one (ps_set (i := 5) scSym.nd rfl (Or.inl rfl) (pe_op op_sub (pe_op op_mod (pe_callTy call_int1 (by rfl) T.int (by decide +kernel) (pa_cons (pe_ix ix_list (pv 1) pe_int (fun _ _ => rfl)) pa_nil)) pe_int) pe_int))) pss_nil) (pss_one (ps_ret (pe_tup (pa_cons pe_int (pa_cons (pv 5) (pa_cons (pe_ix ix_list (pe_lst (pa_cons pe_int (pa_cons (pv 6) (pa_cons (pe_op op_mod (pe_callTy call_int1 (by rfl) T.int (by decide +kernel) (pa_cons (pe_ix ix_list (pv 1) pe_int (fun _ _ => rfl)) pa_nil)) (pe_op op_add (pv 6) pe_int)) pa_nil)))) (pe_op op_mod (pe_callTy call_int1 (by rfl) T.int (by decide +kernel) (pa_cons (pe_ix ix_list (pv 1) pe_int (fun _ _ => rfl)) pa_nil)) pe_int) (fun _ _ => rfl)) (pa_cons (pv 6) pa_nil)))))))))) pss_nil)
      (pss_cons (ps_set (i := 5) scSym.nd rfl (Or.inl rfl) (pe_ix ix_list (pe_lst (pa_cons pe_int (pa_cons pe_int (pa_cons pe_int (pa_cons pe_int (pa_cons (pe_op op_mod (pe_callTy call_int1 (by rfl) T.int (by decide +kernel) (pa_cons (pe_ix ix_list (pv 1) pe_int (fun _ _ => rfl)) pa_nil)) pe_int) (pa_cons (pe_op op_mod (pe_callTy call_int1 (by rfl) T.int (by decide +kernel) (pa_cons (pe_ix ix_list (pv 1) pe_int (fun _ _ => rfl)) pa_nil)) pe_int) pa_nil))))))) (pe_ix ix_list (pv 1) pe_int (fun _ _ => rfl)) (fun _ _ => rfl)))
      (pss_cons (ps_set (i := 7) scSym.nd rfl (Or.inl rfl) (pe_ix ix_list (pe_lst (pa_cons pe_int (pa_cons (pe_op op_pow pe_int pe_int) (pa_cons (pe_op op_sub (pe_op op_pow pe_int pe_int) pe_int) (pa_cons (pe_op op_mod (pe_callTy call_int1 (by rfl) T.int (by decide +kernel) (pa_cons (pe_ix ix_list (pv 1) pe_int (fun _ _ => rfl)) pa_nil)) pe_int) (pa_cons (pe_op op_mod (pe_callTy call_int1 (by rfl) T.int (by decide +kernel) (pa_cons (pe_ix ix_list (pv 1) pe_int (fun _ _ => rfl)) pa_nil)) pe_int) (pa_cons (pe_ix ix_list (pv 1) pe_int (fun _ _ => rfl)) pa_nil))))))) (pe_ix ix_list (pv 1) pe_int (fun _ _ => rfl)) (fun _ _ => rfl)))
      (pss_cons (ps_if (PW.pt (pw_and (pt_cmpR op_eq (pv 2) pe_int (nomark _)) (pw_and1 (pt_cmpR op_eq (pe_ix ix_list (pv 1) pe_int (fun _ _ => rfl)) pe_int (nomark _))))) (pss_one (ps_set (i := 7) scSym.nd rfl (Or.inl rfl) (pe_un un_neg (pv 7)))) pss_nil)
      (pss_one (ps_ret (pe_tup (pa_cons (pv 2) (pa_cons (pv 5) (pa_cons (pv 7) (pa_cons pe_int pa_nil)))))))))))))))), ?_⟩
    -- the draws
    refine ⟨_, rfl, _, _, rfl, rfl, ⟨by decide, by decide, by decide⟩, _, _, rfl, rfl, by decide, fun l hl => ?_⟩
    refine ⟨c, l, lims, rfl, upd_same, by decide, by decide, fun q H1 ds hq sm hB hds => ?_⟩
    have hq0 : H q = none := (same_new hl).free hq
    have sm0 : Same H H1 := (same_new hl).trans sm
    obtain ⟨d0, d1, d2, d3, d4, d5, d6, rfl, b0, b1, b2, b3, b4, b5, b6⟩ : ∃ d0 d1 d2 d3 d4 d5 d6 : Int, ds = [d0, d1, d2, d3, d4, d5, d6] ∧ (0 ≤ d0 ∧ d0 < 6) ∧ (0 ≤ d1 ∧ d1 < 6) ∧ (0 ≤ d2 ∧ d2 < 1048577) ∧ (0 ≤ d3 ∧ d3 < 6) ∧ (0 ≤ d4 ∧ d4 < 256) ∧ (0 ≤ d5 ∧ d5 < 65) ∧ (0 ≤ d6 ∧ d6 < 2) := by
      match ds, hB with
      | [d0, d1, d2, d3, d4, d5, d6], ⟨b0, b1, b2, b3, b4, b5, b6, _⟩ => exact ⟨d0, d1, d2, d3, d4, d5, d6, rfl, b0, b1, b2, b3, b4, b5, b6⟩
    have hd : ∀ H2, Same H1 H2 → SqL K H2 q [.int d0, .int d1, .int d2, .int d3, .int d4, .int d5, .int d6] := fun H2 s2 => SqL.of (s2 _ _ hds)
    have hd1 := hd H1 (Same.refl H1)
    have p24 : (2 : Int) ^ (4 : Int).toNat = 16 := by decide
    have p220 : (2 : Int) ^ (20 : Int).toNat = 1048576 := by decide
    refine ⟨_, rfl, q, _, _, _, rfl, rfl, hd1, rfl, ?_⟩
    refine ⟨_, rfl, rfl, _, rfl, iteE (fun e5 => ?_) (fun e5 => ?_)⟩
    · -- kind 5
      refine ⟨_, rfl, q, _, _, _, rfl, rfl, hd1, rfl, (by show 4 ≤ sizeLine; decide), fun p hp => ?_⟩
      exact k p _ ⟨5, 0, d6, 0, 0⟩ (sm0.free hp) (sm0.trans (same_new hp)) (g_even b6) upd_same
    refine ⟨_, rfl, rfl, _, rfl, iteE (fun e0 => ?_) (fun e0 => ?_)⟩
    · -- kind 0
      obtain ⟨v, hv, hat⟩ := at_mem (ns := [0, 255, 128, 3, d4, d4]) b3.1 b3.2
      simp only [List.mem_cons, List.not_mem_nil, or_false] at hv
      refine ⟨_, rfl, q, _, _, _, rfl, rfl, hd1, rfl, _, rfl, q, _, _, _, rfl, rfl, hd1, rfl, (by show 6 ≤ sizeLine; decide), fun l2 hl2 => ?_⟩
      have s2 := same_new (o := HO.lst [.int 0, .int 255, .int 128, .int 3, .int d4, .int d4]) hl2
      refine ⟨_, rfl, q, _, _, _, rfl, rfl, hd _ s2, rfl, l2, _, d3, V.int v, rfl, rfl, SqL.of upd_same, hat, _, rfl, q, _, _, _, rfl, rfl, hd _ s2, rfl, (by show 4 ≤ sizeLine; decide), fun p hp => ?_⟩
      have s3 := sm0.trans s2
      exact k p _ ⟨0, v, d6, 0, 0⟩ (s3.free hp) (s3.trans (same_new hp)) (g_flag (by omega) b6) upd_same
    refine ⟨_, rfl, rfl, _, rfl, iteE (fun e1 => ?_) (fun e1 => ?_)⟩
    · -- kind 1
      have hc : 1 ≤ 1 + d5 % 16 ∧ 1 + d5 % 16 ≤ 16 := by omega
      have hn := nb_choice hc
      have h16 := pw4 hn.1
      have h2 : ¬ 1 + d5 % 16 = 1 → (2 : Int) ≤ 2 ^ nb (1 + d5 % 16 - 1) := fun z => pw1 (nb_pos (by omega))
      refine ⟨_, rfl, q, _, _, _, rfl, rfl, hd1, rfl, .inl ⟨_, rfl, _, _, rfl, rfl, (by show (0 : Int) < 16; decide), _, _, rfl, rfl, ?_⟩⟩
      refine ⟨_, rfl, _, _, rfl, rfl, _, rfl, ?_⟩
      refine ⟨_, rfl, q, _, _, _, rfl, rfl, hd1, rfl, .inl ⟨_, rfl, _, _, rfl, rfl, ⟨by decide, by decide, by decide⟩, _, _, rfl, rfl, _, _, rfl, rfl, (by show (0 : Int) < 258 - 2 ^ (4 : Int).toNat; decide), ?_⟩⟩
      rw [p24]
      refine ⟨_, rfl, q, _, _, _, rfl, rfl, hd1, rfl, rfl, _, rfl, iteE (fun ez => ?_) (fun ez => ?_)⟩
      · refine ⟨_, rfl, nb (1 + d5 % 16 - 1), rfl, rfl, by omega, _, _, rfl, rfl, ?_⟩
        refine ⟨_, rfl, rfl, _, rfl, iteE (fun eo => ?_) (fun eo => ?_)⟩
        · refine ⟨_, rfl, q, _, _, _, rfl, rfl, hd1, rfl, .inl ⟨_, rfl, _, _, rfl, rfl, (by show (0 : Int) < 901; decide), _, _, rfl, rfl, (by show 4 ≤ sizeLine; decide), fun p hp => ?_⟩⟩
          exact k p _ ⟨1, d2 % 901 - 300, 0, 1, nb (1 - 1)⟩ (sm0.free hp) (sm0.trans (same_new hp)) (g_choice ⟨by decide, by decide⟩ ⟨by decide, by decide⟩ (.inl rfl)) upd_same
        · obtain ⟨v, hv, hat⟩ := at_mem (ns := [0, 1 + d5 % 16 - 1, d2 % (1 + d5 % 16)]) (i := d1 % 3) (by omega) (by show d1 % 3 < 3; omega)
          simp only [List.mem_cons, List.not_mem_nil, or_false] at hv
          have hm := mod_in (a := d2) (l := 1 + d5 % 16) (by omega)
          have h2' := h2 eo
          refine ⟨_, rfl, _, _, rfl, _, rfl, _, _, rfl, rfl, _, rfl, q, _, _, _, rfl, rfl, hd1, rfl, .inl ⟨_, rfl, _, rfl, _, _, rfl, rfl, (by show 0 < 1 + d5 % 16; omega), (by show 3 ≤ sizeLine; decide), fun l2 hl2 => ?_⟩⟩
          have s2 := same_new (o := HO.lst [.int 0, .int (1 + d5 % 16 - 1), .int (d2 % (1 + d5 % 16))]) hl2
          refine ⟨_, rfl, q, _, _, _, rfl, rfl, hd _ s2, rfl, .inl ⟨_, rfl, _, _, rfl, rfl, (by show (0 : Int) < 3; decide), l2, _, d1 % 3, V.int v, rfl, rfl, SqL.of upd_same, hat, _, rfl, (by show 4 ≤ sizeLine; decide), fun p hp => ?_⟩⟩
          have s3 := sm0.trans s2
          refine k p _ ⟨1, if 255 < 257 - 2 ^ nb (1 + d5 % 16 - 1) then 255 else 257 - 2 ^ nb (1 + d5 % 16 - 1), v, 1 + d5 % 16, nb (1 + d5 % 16 - 1)⟩ (s3.free hp) (s3.trans (same_new hp)) (g_choice hc (by omega) (.inr ?_)) upd_same
          split <;> omega
      · refine ⟨_, rfl, rfl, _, rfl, iteE (fun eo => ?_) (fun eo => ?_)⟩
        · refine ⟨_, rfl, q, _, _, _, rfl, rfl, hd1, rfl, .inl ⟨_, rfl, _, _, rfl, rfl, (by show (0 : Int) < 901; decide), _, _, rfl, rfl, (by show 4 ≤ sizeLine; decide), fun p hp => ?_⟩⟩
          exact k p _ ⟨1, d2 % 901 - 300, 0, 1, nb (1 - 1)⟩ (sm0.free hp) (sm0.trans (same_new hp)) (g_choice ⟨by decide, by decide⟩ ⟨by decide, by decide⟩ (.inl rfl)) upd_same
        · obtain ⟨v, hv, hat⟩ := at_mem (ns := [0, 1 + d5 % 16 - 1, d2 % (1 + d5 % 16)]) (i := d1 % 3) (by omega) (by show d1 % 3 < 3; omega)
          simp only [List.mem_cons, List.not_mem_nil, or_false] at hv
          have hm := mod_in (a := d2) (l := 1 + d5 % 16) (by omega)
          have h2' := h2 eo
          refine ⟨_, rfl, _, _, rfl, _, rfl, _, _, rfl, rfl, _, rfl, q, _, _, _, rfl, rfl, hd1, rfl, .inl ⟨_, rfl, _, rfl, _, _, rfl, rfl, (by show 0 < 1 + d5 % 16; omega), (by show 3 ≤ sizeLine; decide), fun l2 hl2 => ?_⟩⟩
          have s2 := same_new (o := HO.lst [.int 0, .int (1 + d5 % 16 - 1), .int (d2 % (1 + d5 % 16))]) hl2
          refine ⟨_, rfl, q, _, _, _, rfl, rfl, hd _ s2, rfl, .inl ⟨_, rfl, _, _, rfl, rfl, (by show (0 : Int) < 3; decide), l2, _, d1 % 3, V.int v, rfl, rfl, SqL.of upd_same, hat, _, rfl, (by show 4 ≤ sizeLine; decide), fun p hp => ?_⟩⟩
          have s3 := sm0.trans s2
          refine k p _ ⟨1, if 255 < d4 % (258 - 16) then 255 else d4 % (258 - 16), v, 1 + d5 % 16, nb (1 + d5 % 16 - 1)⟩ (s3.free hp) (s3.trans (same_new hp)) (g_choice hc (by omega) (.inr ?_)) upd_same
          split <;> omega
    refine ⟨_, rfl, rfl, _, rfl, iteE (fun e2 => ?_) (fun e2 => ?_)⟩
    · -- kind 2
      refine ⟨_, rfl, q, _, _, _, rfl, rfl, hd1, rfl, ?_⟩
      refine ⟨_, rfl, q, _, _, _, rfl, rfl, hd1, rfl, .inl ⟨_, rfl, _, rfl, _, _, rfl, rfl, _, _, rfl, _, _, rfl, _, _, rfl, rfl, _, _, rfl, ?_⟩⟩
      obtain ⟨v, hv, hat⟩ := at_mem (ns := [0, d5, d2 % (d5 + 1)]) (i := d1 % 3) (by omega) (by show d1 % 3 < 3; omega)
      simp only [List.mem_cons, List.not_mem_nil, or_false] at hv
      have hm := mod_in (a := d2) (l := d5 + 1) (by omega)
      refine ⟨_, rfl, rfl, _, rfl, iteE (fun ez => ?_) (fun ez => ?_)⟩
      · refine ⟨_, rfl, q, _, _, _, rfl, rfl, hd1, rfl, .inl ⟨_, rfl, _, _, rfl, rfl, (by show (0 : Int) < 901; decide), _, _, rfl, rfl, ?_⟩⟩
        refine ⟨_, rfl, _, rfl, _, rfl, q, _, _, _, rfl, rfl, hd1, rfl, .inl ⟨_, rfl, _, rfl, _, _, rfl, rfl, _, _, rfl, rfl, (by show 0 < d5 + 1; omega), (by show 3 ≤ sizeLine; decide), fun l2 hl2 => ?_⟩⟩
        have s2 := same_new (o := HO.lst [.int 0, .int d5, .int (d2 % (d5 + 1))]) hl2
        refine ⟨_, rfl, q, _, _, _, rfl, rfl, hd _ s2, rfl, .inl ⟨_, rfl, _, _, rfl, rfl, (by show (0 : Int) < 3; decide), l2, _, d1 % 3, V.int v, rfl, rfl, SqL.of upd_same, hat, _, rfl, (by show 4 ≤ sizeLine; decide), fun p hp => ?_⟩⟩
        have s3 := sm0.trans s2
        exact k p _ ⟨2, _, v, d5, 0⟩ (s3.free hp) (s3.trans (same_new hp)) (g_unary (by omega) (by omega) (.inl ez)) upd_same
      · refine ⟨_, rfl, _, rfl, _, rfl, q, _, _, _, rfl, rfl, hd1, rfl, .inl ⟨_, rfl, _, rfl, _, _, rfl, rfl, _, _, rfl, rfl, (by show 0 < d5 + 1; omega), (by show 3 ≤ sizeLine; decide), fun l2 hl2 => ?_⟩⟩
        have s2 := same_new (o := HO.lst [.int 0, .int d5, .int (d2 % (d5 + 1))]) hl2
        refine ⟨_, rfl, q, _, _, _, rfl, rfl, hd _ s2, rfl, .inl ⟨_, rfl, _, _, rfl, rfl, (by show (0 : Int) < 3; decide), l2, _, d1 % 3, V.int v, rfl, rfl, SqL.of upd_same, hat, _, rfl, (by show 4 ≤ sizeLine; decide), fun p hp => ?_⟩⟩
        have s3 := sm0.trans s2
        refine k p _ ⟨2, if (255 - (if 7 < (if 0 > d5 - 1 then 0 else d5 - 1) then 7 else (if 0 > d5 - 1 then 0 else d5 - 1))) < d4 then (255 - (if 7 < (if 0 > d5 - 1 then 0 else d5 - 1) then 7 else (if 0 > d5 - 1 then 0 else d5 - 1))) else d4, v, d5, 0⟩ (s3.free hp) (s3.trans (same_new hp)) (g_unary (by omega) (by omega) (.inr ?_)) upd_same
        show 0 ≤ (if (255 - (if 7 < (if 0 > d5 - 1 then 0 else d5 - 1) then 7 else (if 0 > d5 - 1 then 0 else d5 - 1))) < d4 then (255 - (if 7 < (if 0 > d5 - 1 then 0 else d5 - 1) then 7 else (if 0 > d5 - 1 then 0 else d5 - 1))) else d4) ∧ (if (255 - (if 7 < (if 0 > d5 - 1 then 0 else d5 - 1) then 7 else (if 0 > d5 - 1 then 0 else d5 - 1))) < d4 then (255 - (if 7 < (if 0 > d5 - 1 then 0 else d5 - 1) then 7 else (if 0 > d5 - 1 then 0 else d5 - 1))) else d4) + (if 8 < d5 then 8 else d5) ≤ 256
        omega
    -- numbers
    obtain ⟨bb, hbb, hat⟩ := at_mem (ns := [0, 240, 25, 41, d4 % 241, d4 % 241]) b3.1 b3.2
    obtain ⟨v, hv, hat2⟩ := at_mem (ns := [0, 2 ^ (20 : Int).toNat, 2 ^ (20 : Int).toNat - 1, d2 % 40, d2 % 1000, d2]) b1.1 b1.2
    simp only [List.mem_cons, List.not_mem_nil, or_false] at hbb hv
    rw [p220] at hv
    have hbb2 : 0 ≤ bb ∧ bb ≤ 240 := by omega
    have hv2 : 0 ≤ v ∧ v ≤ 1048576 := by omega
    refine ⟨_, rfl, q, _, _, _, rfl, rfl, hd1, rfl, .inl ⟨_, rfl, _, _, rfl, rfl, (by show (0 : Int) < 241; decide), _, rfl, q, _, _, _, rfl, rfl, hd1, rfl, .inl ⟨_, rfl, _, _, rfl, rfl, (by show (0 : Int) < 241; decide), (by show 6 ≤ sizeLine; decide), fun l2 hl2 => ?_⟩⟩⟩
    have s2 := same_new (o := HO.lst [.int 0, .int 240, .int 25, .int 41, .int (d4 % 241), .int (d4 % 241)]) hl2
    refine ⟨_, rfl, q, _, _, _, rfl, rfl, hd _ s2, rfl, l2, _, d3, V.int bb, rfl, rfl, SqL.of upd_same, hat, ?_⟩
    have hd2 := hd _ s2
    have s3 := sm0.trans s2
    refine ⟨_, _, rfl, rfl, ⟨by decide, by decide, by decide⟩, _, _, rfl, rfl, ⟨by decide, by decide, by decide⟩, _, _, rfl, rfl, _, rfl, q, _, _, _, rfl, rfl, hd2, rfl, .inl ⟨_, rfl, _, _, rfl, rfl, (by show (0 : Int) < 40; decide), _, rfl, q, _, _, _, rfl, rfl, hd2, rfl, .inl ⟨_, rfl, _, _, rfl, rfl, (by show (0 : Int) < 1000; decide), _, rfl, q, _, _, _, rfl, rfl, hd2, rfl, (by show 6 ≤ sizeLine; decide), fun l3 hl3 => ?_⟩⟩⟩
    have s4 := same_new (o := HO.lst [.int 0, .int (2 ^ (20 : Int).toNat), .int (2 ^ (20 : Int).toNat - 1), .int (d2 % 40), .int (d2 % 1000), .int d2]) hl3
    have hd4 := hd _ (s2.trans s4)
    have s5 := s3.trans s4
    refine ⟨_, rfl, q, _, _, _, rfl, rfl, hd4, rfl, l3, _, d1, V.int v, rfl, rfl, SqL.of upd_same, hat2, ?_⟩
    have hk4 : d0 = 3 ∨ d0 = 4 := by omega
    refine ⟨_, rfl, rfl, _, rfl, iteE (fun e4 => ⟨_, rfl, q, _, _, _, rfl, rfl, hd4, rfl, rfl, _, rfl, iteE (fun ez => ?_) (fun ez => ?_)⟩) (fun e4 => iteF ?_)⟩
    · refine ⟨_, rfl, _, rfl, ?_⟩
      refine ⟨_, rfl, _, rfl, _, rfl, (by show 4 ≤ sizeLine; decide), fun p hp => ?_⟩
      exact k p _ ⟨d0, bb, -v, 0, nb (Thm.ab (-v) + 1)⟩ (s5.free hp) (s5.trans (same_new hp)) (g_num (.inr e4) hbb2 (by omega)) upd_same
    · refine ⟨_, rfl, _, rfl, _, rfl, (by show 4 ≤ sizeLine; decide), fun p hp => ?_⟩
      exact k p _ ⟨d0, bb, v, 0, nb (Thm.ab v + 1)⟩ (s5.free hp) (s5.trans (same_new hp)) (g_num (.inr e4) hbb2 (by omega)) upd_same
    · refine ⟨_, rfl, _, rfl, _, rfl, (by show 4 ≤ sizeLine; decide), fun p hp => ?_⟩
      exact k p _ ⟨d0, bb, v, 0, nb (Thm.ab v + 1)⟩ (s5.free hp) (s5.trans (same_new hp)) (g_num (.inl ⟨by omega, hv2.1⟩) hbb2 (by omega)) upd_same
end
end Th
namespace Th
open PySem PySem.Spec PyProof.Rows L2
theorem flag_bit {v : Int} (h : v = 0 ∨ v = 1) : (if decide (v = 1) = true then (1 : Int) else 0) = v := by
  rcases h with e | e
  · rw [e]
    rfl
  · rw [e]
    rfl
section
variable {P : Program} {w : World} {K : PySem.W.Frag} {mg : Str → Option Value} {base : Heap}
/-- the bundle of the writer's methods -/
structure WM (P : Program) (w : World) (K : PySem.W.Frag) (mg : Str → Option Value) (base : Heap) : Prop where
  even : C8.Met P w K mg base 3 (cW K) "even" (spWeven K) []
  flag : C8.Met P w K mg base 3 (cW K) "flag" (spWflag K) []
  choice : MetN P w K mg base 3 (cW K) "choice" (spWchoice K) 3 ["count"]
  unary : MetN P w K mg base 3 (cW K) "unary" (spWunary K) 3 ["most"]
  number : C8.Met P w K mg base 4 (cW K) "number" (spWnumber K) []
  signed : C8.Met P w K mg base 5 (cW K) "signed" (spWsigned K) []
structure RM (P : Program) (w : World) (K : PySem.W.Frag) (mg : Str → Option Value) (base : Heap) : Prop where
  even : C8.Met P w K mg base 4 (cR K) "even" (spReven K) []
  flag : C8.Met P w K mg base 4 (cR K) "flag" (spRflag K) []
  choice : MetN P w K mg base 4 (cR K) "choice" (spRchoice K) 2 ["count"]
  unary : MetN P w K mg base 4 (cR K) "unary" (spRunary K) 2 ["most"]
  number : C8.Met P w K mg base 5 (cR K) "number" (spRnumber K) []
  signed : C8.Met P w K mg base 6 (cR K) "signed" (spRsigned K) []
theorem tup_frm {H H' : Hp} {a ca p : Addr} {xs : List V} {C dx : Addr} {fs : List (Str × V)} {ys : List V} (fr : Frm a ca H H') (hp : H p = some (.tup xs)) (ha : H a = some (.ins C dx fs)) (hc : H ca = some (.lst ys)) : H' p = some (.tup xs) :=
  fr p _ hp (ne_of hp ha (by intro z; cases z)) (ne_of hp hc (by intro z; cases z))
/-! ### _law_put -/
def spPut (K : PySem.W.Frag) : Sp := fun vs H Q _ => ∃ (x a ca : Addr) (s : Thm.ES) (y : Thm.Sy) (p : Addr), vs = [.ref x, .ref p] ∧ WAt K H x a ca s ∧ Thm.EOk s ∧ SyG y ∧ H p = some (syT y) ∧
  ∀ H', WAt K H' x a ca (Thm.eFold s (Thm.syD y)) → Frm a ca H H' → Q .non H'
theorem scPut : FnScope ["_law_writer", "_law_symbol_here"] ["_law_writer", "_law_symbol_here"] (defScope sPut) := ⟨rfl, rfl, rfl, by decide +kernel, rfl, by decide +kernel, by decide +kernel⟩
theorem okPut {f : Addr} {fd : FuncData} (F : Fun K "_law_put" "_law_put" sPut f fd) (T : Txt K mg) (M : WM P w K mg base) : FnOk P w K mg base CX0 6 f fd ["_law_writer", "_law_symbol_here"] (spPut K) := by
  refine F.ok scPut (fun vs H Q E h => ?_) (fun cdv A outer s H vs Q E hr h => ?_)
  · obtain ⟨x, a, ca, s, y, p, rfl, _⟩ := h
    rfl
  · obtain ⟨x, a, ca, s, ⟨κ, b, v, c, n⟩, p, rfl, R, ok, G, hp, k⟩ := h
    obtain ⟨dw, wr⟩ := R.wr
    obtain ⟨dx, ob⟩ := R.en.ob
    have hch := R.en.ch
    have hk := G.ok.kind
    have hkey : ∀ H1, Frm a ca H H1 → H1 p = some (.tup [.int κ, .int b, .int v, .int c]) := fun H1 fr => tup_frm fr hp ob hch
    have hp1 := hkey H (Frm.refl H)
    refine ⟨_, (pss_cons (ps_if (pt_cmpR op_eq (pe_ix ix_tup (pv 1) pe_int (fun _ _ => rfl)) pe_int (nomark _)) (pss_one (ps_expr (C8.pe_mt M.flag hr (by decide) (pv 0) (pa_cons (pe_ix ix_tup (pv 1) pe_int (fun _ _ => rfl)) (pa_cons (pe_cmpR op_eq (pe_ix ix_tup (pv 1) pe_int (fun _ _ => rfl)) pe_int (nomark _)) pa_nil))))) pss_nil) (pss_cons (ps_if (pt_cmpR op_eq (pe_ix ix_tup (pv 1) pe_int (fun _ _ => rfl)) pe_int (nomark _)) (pss_one (ps_expr (pe_mtN M.choice hr (by decide) (pv 0) (pa_cons (pe_ix ix_tup (pv 1) pe_int (fun _ _ => rfl)) (pa_cons (pe_ix ix_tup (pv 1) pe_int (fun _ _ => rfl)) pa_nil)) (pk_cons (pe_ix ix_tup (pv 1) pe_int (fun _ _ => rfl)) pk_nil)))) pss_nil) (pss_cons (ps_if (pt_cmpR op_eq (pe_ix ix_tup (pv 1) pe_int (fun _ _ => rfl)) pe_int (nomark _)) (pss_one (ps_expr (pe_mtN M.unary hr (by decide) (pv 0) (pa_cons (pe_ix ix_tup (pv 1) pe_int (fun _ _ => rfl)) (pa_cons (pe_ix ix_tup (pv 1) pe_int (fun _ _ => rfl)) pa_nil)) (pk_cons (pe_ix ix_tup (pv 1) pe_int (fun _ _ => rfl)) pk_nil)))) pss_nil) (pss_cons (ps_if (pt_cmpR op_eq (pe_ix ix_tup (pv 1) pe_int (fun _ _ => rfl)) pe_int (nomark _)) (pss_one (ps_expr (C8.pe_mt M.number hr (by decide) (pv 0) (pa_cons (pe_ix ix_tup (pv 1) pe_int (fun _ _ => rfl)) (pa_cons (pe_ix ix_tup (pv 1) pe_int (fun _ _ => rfl)) pa_nil))))) pss_nil) (pss_cons (ps_if (pt_cmpR op_eq (pe_ix ix_tup (pv 1) pe_int (fun _ _ => rfl)) pe_int (nomark _)) (pss_one (ps_expr (C8.pe_mt M.signed hr (by decide) (pv 0) (pa_cons (pe_ix ix_tup (pv 1) pe_int (fun _ _ => rfl)) (pa_cons (pe_ix ix_tup (pv 1) pe_int (fun _ _ => rfl)) pa_nil))))) pss_nil) (pss_one (ps_if (pt_cmpR op_eq (pe_ix ix_tup (pv 1) pe_int (fun _ _ => rfl)) pe_int (nomark _)) (pss_one (ps_expr (C8.pe_mt M.even hr (by decide) (pv 0) (pa_cons (pe_ix ix_tup (pv 1) pe_int (fun _ _ => rfl)) pa_nil)))) pss_nil))))))), ?_⟩
    have hκ : κ = 0 ∨ κ = 1 ∨ κ = 2 ∨ κ = 3 ∨ κ = 4 ∨ κ = 5 := by
      have h1 : 0 ≤ κ ∧ κ ≤ 5 := hk
      omega
    unfold Thm.syD at k
    dsimp only at k
    rcases hκ with e | e | e | e | e | e
    · rw [if_pos (show κ = 0 by omega)] at k
      obtain ⟨hb, hv⟩ := G.ok.flag e
      refine ⟨_, rfl, p, _, _, _, rfl, rfl, SqT.of hp1, rfl, rfl, _, rfl, iteE (fun _ => ?_) (fun z => absurd e z)⟩
      refine ⟨_, rfl, x, dw, _, rfl, wr, rfl, _, rfl, p, _, _, _, rfl, rfl, SqT.of hp1, rfl, _, rfl, p, _, _, _, rfl, rfl, SqT.of hp1, rfl, rfl, x, a, ca, s, b, decide (V.int v = V.int 1), rfl, R, ok, hb, fun H1 R1 fr => ?_⟩
      rw [dec_int, flag_bit hv] at R1
      have hp2 := hkey H1 fr
      refine ⟨_, rfl, p, _, _, _, rfl, rfl, SqT.of hp2, rfl, rfl, _, rfl, iteE (fun z => absurd z (by omega)) (fun _ => ?_)⟩
      refine ⟨_, rfl, p, _, _, _, rfl, rfl, SqT.of hp2, rfl, rfl, _, rfl, iteE (fun z => absurd z (by omega)) (fun _ => ?_)⟩
      refine ⟨_, rfl, p, _, _, _, rfl, rfl, SqT.of hp2, rfl, rfl, _, rfl, iteE (fun z => absurd z (by omega)) (fun _ => ?_)⟩
      refine ⟨_, rfl, p, _, _, _, rfl, rfl, SqT.of hp2, rfl, rfl, _, rfl, iteE (fun z => absurd z (by omega)) (fun _ => ?_)⟩
      exact ⟨_, rfl, p, _, _, _, rfl, rfl, SqT.of hp2, rfl, rfl, _, rfl, iteE (fun z => absurd z (by omega)) (fun _ => k H1 R1 fr)⟩
    · rw [if_neg (show ¬ κ = 0 by omega)] at k
      rw [if_pos (show κ = 1 by omega)] at k
      refine ⟨_, rfl, p, _, _, _, rfl, rfl, SqT.of hp1, rfl, rfl, _, rfl, iteE (fun z => absurd z (by omega)) (fun _ => ?_)⟩
      obtain ⟨hc, hv, hn, hb⟩ := G.ok.choice e
      refine ⟨_, rfl, p, _, _, _, rfl, rfl, SqT.of hp1, rfl, rfl, _, rfl, iteE (fun _ => ?_) (fun z => absurd e z)⟩
      refine ⟨_, rfl, x, dw, _, rfl, wr, rfl, _, rfl, p, _, _, _, rfl, rfl, SqT.of hp1, rfl, _, rfl, p, _, _, _, rfl, rfl, SqT.of hp1, rfl, _, rfl, p, _, _, _, rfl, rfl, SqT.of hp1, rfl, rfl, rfl, x, a, ca, s, b, v, c, n, rfl, R, ok, hc, hv, G.n1 e, hn, hb, fun H1 R1 fr => ?_⟩
      have hp2 := hkey H1 fr
      refine ⟨_, rfl, p, _, _, _, rfl, rfl, SqT.of hp2, rfl, rfl, _, rfl, iteE (fun z => absurd z (by omega)) (fun _ => ?_)⟩
      refine ⟨_, rfl, p, _, _, _, rfl, rfl, SqT.of hp2, rfl, rfl, _, rfl, iteE (fun z => absurd z (by omega)) (fun _ => ?_)⟩
      refine ⟨_, rfl, p, _, _, _, rfl, rfl, SqT.of hp2, rfl, rfl, _, rfl, iteE (fun z => absurd z (by omega)) (fun _ => ?_)⟩
      exact ⟨_, rfl, p, _, _, _, rfl, rfl, SqT.of hp2, rfl, rfl, _, rfl, iteE (fun z => absurd z (by omega)) (fun _ => k H1 R1 fr)⟩
    · rw [if_neg (show ¬ κ = 0 by omega)] at k
      rw [if_neg (show ¬ κ = 1 by omega)] at k
      rw [if_pos (show κ = 2 by omega)] at k
      refine ⟨_, rfl, p, _, _, _, rfl, rfl, SqT.of hp1, rfl, rfl, _, rfl, iteE (fun z => absurd z (by omega)) (fun _ => ?_)⟩
      refine ⟨_, rfl, p, _, _, _, rfl, rfl, SqT.of hp1, rfl, rfl, _, rfl, iteE (fun z => absurd z (by omega)) (fun _ => ?_)⟩
      obtain ⟨hc, hv, hb⟩ := G.ok.unary e
      refine ⟨_, rfl, p, _, _, _, rfl, rfl, SqT.of hp1, rfl, rfl, _, rfl, iteE (fun _ => ?_) (fun z => absurd e z)⟩
      refine ⟨_, rfl, x, dw, _, rfl, wr, rfl, _, rfl, p, _, _, _, rfl, rfl, SqT.of hp1, rfl, _, rfl, p, _, _, _, rfl, rfl, SqT.of hp1, rfl, _, rfl, p, _, _, _, rfl, rfl, SqT.of hp1, rfl, rfl, rfl, x, a, ca, s, b, v, c, rfl, R, ok, hc, hv, hb, fun H1 R1 fr => ?_⟩
      have hp2 := hkey H1 fr
      refine ⟨_, rfl, p, _, _, _, rfl, rfl, SqT.of hp2, rfl, rfl, _, rfl, iteE (fun z => absurd z (by omega)) (fun _ => ?_)⟩
      refine ⟨_, rfl, p, _, _, _, rfl, rfl, SqT.of hp2, rfl, rfl, _, rfl, iteE (fun z => absurd z (by omega)) (fun _ => ?_)⟩
      exact ⟨_, rfl, p, _, _, _, rfl, rfl, SqT.of hp2, rfl, rfl, _, rfl, iteE (fun z => absurd z (by omega)) (fun _ => k H1 R1 fr)⟩
    · rw [if_neg (show ¬ κ = 0 by omega)] at k
      rw [if_neg (show ¬ κ = 1 by omega)] at k
      rw [if_neg (show ¬ κ = 2 by omega)] at k
      rw [if_pos (show κ = 3 by omega)] at k
      refine ⟨_, rfl, p, _, _, _, rfl, rfl, SqT.of hp1, rfl, rfl, _, rfl, iteE (fun z => absurd z (by omega)) (fun _ => ?_)⟩
      refine ⟨_, rfl, p, _, _, _, rfl, rfl, SqT.of hp1, rfl, rfl, _, rfl, iteE (fun z => absurd z (by omega)) (fun _ => ?_)⟩
      refine ⟨_, rfl, p, _, _, _, rfl, rfl, SqT.of hp1, rfl, rfl, _, rfl, iteE (fun z => absurd z (by omega)) (fun _ => ?_)⟩
      obtain ⟨hb, hv, hd⟩ := G.ok.number e
      refine ⟨_, rfl, p, _, _, _, rfl, rfl, SqT.of hp1, rfl, rfl, _, rfl, iteE (fun _ => ?_) (fun z => absurd e z)⟩
      refine ⟨_, rfl, x, dw, _, rfl, wr, rfl, _, rfl, p, _, _, _, rfl, rfl, SqT.of hp1, rfl, _, rfl, p, _, _, _, rfl, rfl, SqT.of hp1, rfl, x, a, ca, s, b, v, n, rfl, R, ok, hb, hv, G.n3 e, fun H1 R1 fr => ?_⟩
      have hp2 := hkey H1 fr
      refine ⟨_, rfl, p, _, _, _, rfl, rfl, SqT.of hp2, rfl, rfl, _, rfl, iteE (fun z => absurd z (by omega)) (fun _ => ?_)⟩
      exact ⟨_, rfl, p, _, _, _, rfl, rfl, SqT.of hp2, rfl, rfl, _, rfl, iteE (fun z => absurd z (by omega)) (fun _ => k H1 R1 fr)⟩
    · rw [if_neg (show ¬ κ = 0 by omega)] at k
      rw [if_neg (show ¬ κ = 1 by omega)] at k
      rw [if_neg (show ¬ κ = 2 by omega)] at k
      rw [if_neg (show ¬ κ = 3 by omega)] at k
      rw [if_pos (show κ = 4 by omega)] at k
      refine ⟨_, rfl, p, _, _, _, rfl, rfl, SqT.of hp1, rfl, rfl, _, rfl, iteE (fun z => absurd z (by omega)) (fun _ => ?_)⟩
      refine ⟨_, rfl, p, _, _, _, rfl, rfl, SqT.of hp1, rfl, rfl, _, rfl, iteE (fun z => absurd z (by omega)) (fun _ => ?_)⟩
      refine ⟨_, rfl, p, _, _, _, rfl, rfl, SqT.of hp1, rfl, rfl, _, rfl, iteE (fun z => absurd z (by omega)) (fun _ => ?_)⟩
      refine ⟨_, rfl, p, _, _, _, rfl, rfl, SqT.of hp1, rfl, rfl, _, rfl, iteE (fun z => absurd z (by omega)) (fun _ => ?_)⟩
      obtain ⟨hb, hv, hd⟩ := G.ok.signed e
      refine ⟨_, rfl, p, _, _, _, rfl, rfl, SqT.of hp1, rfl, rfl, _, rfl, iteE (fun _ => ?_) (fun z => absurd e z)⟩
      refine ⟨_, rfl, x, dw, _, rfl, wr, rfl, _, rfl, p, _, _, _, rfl, rfl, SqT.of hp1, rfl, _, rfl, p, _, _, _, rfl, rfl, SqT.of hp1, rfl, x, a, ca, s, b, v, n, rfl, R, ok, hb, hv, G.n4 e, fun H1 R1 fr => ?_⟩
      have hp2 := hkey H1 fr
      exact ⟨_, rfl, p, _, _, _, rfl, rfl, SqT.of hp2, rfl, rfl, _, rfl, iteE (fun z => absurd z (by omega)) (fun _ => k H1 R1 fr)⟩
    · rw [if_neg (show ¬ κ = 0 by omega)] at k
      rw [if_neg (show ¬ κ = 1 by omega)] at k
      rw [if_neg (show ¬ κ = 2 by omega)] at k
      rw [if_neg (show ¬ κ = 3 by omega)] at k
      rw [if_neg (show ¬ κ = 4 by omega)] at k
      refine ⟨_, rfl, p, _, _, _, rfl, rfl, SqT.of hp1, rfl, rfl, _, rfl, iteE (fun z => absurd z (by omega)) (fun _ => ?_)⟩
      refine ⟨_, rfl, p, _, _, _, rfl, rfl, SqT.of hp1, rfl, rfl, _, rfl, iteE (fun z => absurd z (by omega)) (fun _ => ?_)⟩
      refine ⟨_, rfl, p, _, _, _, rfl, rfl, SqT.of hp1, rfl, rfl, _, rfl, iteE (fun z => absurd z (by omega)) (fun _ => ?_)⟩
      refine ⟨_, rfl, p, _, _, _, rfl, rfl, SqT.of hp1, rfl, rfl, _, rfl, iteE (fun z => absurd z (by omega)) (fun _ => ?_)⟩
      refine ⟨_, rfl, p, _, _, _, rfl, rfl, SqT.of hp1, rfl, rfl, _, rfl, iteE (fun z => absurd z (by omega)) (fun _ => ?_)⟩
      have hv := G.ok.even e
      refine ⟨_, rfl, p, _, _, _, rfl, rfl, SqT.of hp1, rfl, rfl, _, rfl, iteE (fun _ => ?_) (fun z => absurd e z)⟩
      refine ⟨_, rfl, x, dw, _, rfl, wr, rfl, _, rfl, p, _, _, _, rfl, rfl, SqT.of hp1, rfl, x, a, ca, s, v, rfl, R, ok, hv, fun H1 R1 fr => ?_⟩
      exact k H1 R1 fr
/-! ### _law_get -/
def syV (y : Thm.Sy) : V := if y.k = 0 then .bl (decide (y.v = 1)) else .int y.v
def spGet (K : PySem.W.Frag) : Sp := fun vs H Q _ => ∃ (x a ca : Addr) (y : Thm.Sy) (p : Addr) (D : List Thm.Dc), vs = [.ref x, .ref p] ∧ QAt K H x a ca (Thm.syD y ++ D) ∧ SyG y ∧ H p = some (syT y) ∧
  ∀ H', QAt K H' x a ca D → Frm a ca H H' → Q (syV y) H'
theorem scGet : FnScope ["_law_reader", "_law_symbol_here"] ["_law_reader", "_law_symbol_here"] (defScope sGet) := ⟨rfl, rfl, rfl, by decide +kernel, rfl, by decide +kernel, by decide +kernel⟩
theorem okGet {f : Addr} {fd : FuncData} (F : Fun K "_law_get" "_law_get" sGet f fd) (T : Txt K mg) (M : RM P w K mg base) : FnOk P w K mg base CX0 7 f fd ["_law_reader", "_law_symbol_here"] (spGet K) := by
  refine F.ok scGet (fun vs H Q E h => ?_) (fun cdv A outer s H vs Q E hr h => ?_)
  · obtain ⟨x, a, ca, y, p, D, rfl, _⟩ := h
    rfl
  · obtain ⟨x, a, ca, ⟨κ, b, v, c, n⟩, p, D, rfl, R, G, hp, k⟩ := h
    obtain ⟨dr, rd⟩ := R.rd
    have hk := G.ok.kind
    have hp1 : H p = some (.tup [.int κ, .int b, .int v, .int c]) := hp
    refine ⟨_, (pss_cons (ps_if (pt_cmpR op_eq (pe_ix ix_tup (pv 1) pe_int (fun _ _ => rfl)) pe_int (nomark _)) (pss_one (ps_ret (C8.pe_mt M.flag hr (by decide) (pv 0) (pa_cons (pe_ix ix_tup (pv 1) pe_int (fun _ _ => rfl)) pa_nil)))) pss_nil) (pss_cons (ps_if (pt_cmpR op_eq (pe_ix ix_tup (pv 1) pe_int (fun _ _ => rfl)) pe_int (nomark _)) (pss_one (ps_ret (pe_mtN M.choice hr (by decide) (pv 0) (pa_cons (pe_ix ix_tup (pv 1) pe_int (fun _ _ => rfl)) pa_nil) (pk_cons (pe_ix ix_tup (pv 1) pe_int (fun _ _ => rfl)) pk_nil)))) pss_nil) (pss_cons (ps_if (pt_cmpR op_eq (pe_ix ix_tup (pv 1) pe_int (fun _ _ => rfl)) pe_int (nomark _)) (pss_one (ps_ret (pe_mtN M.unary hr (by decide) (pv 0) (pa_cons (pe_ix ix_tup (pv 1) pe_int (fun _ _ => rfl)) pa_nil) (pk_cons (pe_ix ix_tup (pv 1) pe_int (fun _ _ => rfl)) pk_nil)))) pss_nil) (pss_cons (ps_if (pt_cmpR op_eq (pe_ix ix_tup (pv 1) pe_int (fun _ _ => rfl)) pe_int (nomark _)) (pss_one (ps_ret (C8.pe_mt M.number hr (by decide) (pv 0) (pa_cons (pe_ix ix_tup (pv 1) pe_int (fun _ _ => rfl)) pa_nil)))) pss_nil) (pss_cons (ps_if (pt_cmpR op_eq (pe_ix ix_tup (pv 1) pe_int (fun _ _ => rfl)) pe_int (nomark _)) (pss_one (ps_ret (C8.pe_mt0 M.even hr (by decide) (pv 0)))) pss_nil) (pss_one (ps_ret (C8.pe_mt M.signed hr (by decide) (pv 0) (pa_cons (pe_ix ix_tup (pv 1) pe_int (fun _ _ => rfl)) pa_nil))))))))), ?_⟩
    have hκ : κ = 0 ∨ κ = 1 ∨ κ = 2 ∨ κ = 3 ∨ κ = 5 ∨ κ = 4 := by
      have h1 : 0 ≤ κ ∧ κ ≤ 5 := hk
      omega
    unfold Thm.syD at R
    dsimp only at R
    unfold syV at k
    dsimp only at k
    rcases hκ with e | e | e | e | e | e
    · rw [if_pos (show κ = 0 by omega)] at R
      rw [if_pos (show κ = 0 by omega)] at k
      obtain ⟨hb, hv⟩ := G.ok.flag e
      refine ⟨_, rfl, p, _, _, _, rfl, rfl, SqT.of hp1, rfl, rfl, _, rfl, iteE (fun _ => ?_) (fun z => absurd e z)⟩
      exact ⟨_, rfl, x, dr, _, rfl, rd, rfl, _, rfl, p, _, _, _, rfl, rfl, SqT.of hp1, rfl, x, a, ca, b, v, D, rfl, R, hb, k⟩
    · rw [if_neg (show ¬ κ = 0 by omega)] at R
      rw [if_pos (show κ = 1 by omega)] at R
      rw [if_neg (show ¬ κ = 0 by omega)] at k
      refine ⟨_, rfl, p, _, _, _, rfl, rfl, SqT.of hp1, rfl, rfl, _, rfl, iteE (fun z => absurd z (by omega)) (fun _ => ?_)⟩
      obtain ⟨hc, hv, hn, hb⟩ := G.ok.choice e
      refine ⟨_, rfl, p, _, _, _, rfl, rfl, SqT.of hp1, rfl, rfl, _, rfl, iteE (fun _ => ?_) (fun z => absurd e z)⟩
      exact ⟨_, rfl, x, dr, _, rfl, rd, rfl, _, rfl, p, _, _, _, rfl, rfl, SqT.of hp1, rfl, _, rfl, p, _, _, _, rfl, rfl, SqT.of hp1, rfl, rfl, rfl, x, a, ca, b, v, c, n, D, rfl, R, hc, hv, G.n1 e, hn, hb, k⟩
    · rw [if_neg (show ¬ κ = 0 by omega)] at R
      rw [if_neg (show ¬ κ = 1 by omega)] at R
      rw [if_pos (show κ = 2 by omega)] at R
      rw [if_neg (show ¬ κ = 0 by omega)] at k
      refine ⟨_, rfl, p, _, _, _, rfl, rfl, SqT.of hp1, rfl, rfl, _, rfl, iteE (fun z => absurd z (by omega)) (fun _ => ?_)⟩
      refine ⟨_, rfl, p, _, _, _, rfl, rfl, SqT.of hp1, rfl, rfl, _, rfl, iteE (fun z => absurd z (by omega)) (fun _ => ?_)⟩
      obtain ⟨hc, hv, hb⟩ := G.ok.unary e
      refine ⟨_, rfl, p, _, _, _, rfl, rfl, SqT.of hp1, rfl, rfl, _, rfl, iteE (fun _ => ?_) (fun z => absurd e z)⟩
      exact ⟨_, rfl, x, dr, _, rfl, rd, rfl, _, rfl, p, _, _, _, rfl, rfl, SqT.of hp1, rfl, _, rfl, p, _, _, _, rfl, rfl, SqT.of hp1, rfl, rfl, rfl, x, a, ca, b, v, c, D, rfl, R, hc, hv, hb, k⟩
    · rw [if_neg (show ¬ κ = 0 by omega)] at R
      rw [if_neg (show ¬ κ = 1 by omega)] at R
      rw [if_neg (show ¬ κ = 2 by omega)] at R
      rw [if_pos (show κ = 3 by omega)] at R
      rw [if_neg (show ¬ κ = 0 by omega)] at k
      refine ⟨_, rfl, p, _, _, _, rfl, rfl, SqT.of hp1, rfl, rfl, _, rfl, iteE (fun z => absurd z (by omega)) (fun _ => ?_)⟩
      refine ⟨_, rfl, p, _, _, _, rfl, rfl, SqT.of hp1, rfl, rfl, _, rfl, iteE (fun z => absurd z (by omega)) (fun _ => ?_)⟩
      refine ⟨_, rfl, p, _, _, _, rfl, rfl, SqT.of hp1, rfl, rfl, _, rfl, iteE (fun z => absurd z (by omega)) (fun _ => ?_)⟩
      obtain ⟨hb, hv, hd⟩ := G.ok.number e
      refine ⟨_, rfl, p, _, _, _, rfl, rfl, SqT.of hp1, rfl, rfl, _, rfl, iteE (fun _ => ?_) (fun z => absurd e z)⟩
      exact ⟨_, rfl, x, dr, _, rfl, rd, rfl, _, rfl, p, _, _, _, rfl, rfl, SqT.of hp1, rfl, x, a, ca, b, v, n, D, rfl, R, hb, hv, hd, k⟩
    · rw [if_neg (show ¬ κ = 0 by omega)] at R
      rw [if_neg (show ¬ κ = 1 by omega)] at R
      rw [if_neg (show ¬ κ = 2 by omega)] at R
      rw [if_neg (show ¬ κ = 3 by omega)] at R
      rw [if_neg (show ¬ κ = 4 by omega)] at R
      rw [if_neg (show ¬ κ = 0 by omega)] at k
      refine ⟨_, rfl, p, _, _, _, rfl, rfl, SqT.of hp1, rfl, rfl, _, rfl, iteE (fun z => absurd z (by omega)) (fun _ => ?_)⟩
      refine ⟨_, rfl, p, _, _, _, rfl, rfl, SqT.of hp1, rfl, rfl, _, rfl, iteE (fun z => absurd z (by omega)) (fun _ => ?_)⟩
      refine ⟨_, rfl, p, _, _, _, rfl, rfl, SqT.of hp1, rfl, rfl, _, rfl, iteE (fun z => absurd z (by omega)) (fun _ => ?_)⟩
      refine ⟨_, rfl, p, _, _, _, rfl, rfl, SqT.of hp1, rfl, rfl, _, rfl, iteE (fun z => absurd z (by omega)) (fun _ => ?_)⟩
      refine ⟨_, rfl, p, _, _, _, rfl, rfl, SqT.of hp1, rfl, rfl, _, rfl, iteE (fun _ => ?_) (fun z => absurd e z)⟩
      exact ⟨_, rfl, x, dr, _, rfl, rd, rfl, x, a, ca, v, D, rfl, R, k⟩
    · rw [if_neg (show ¬ κ = 0 by omega)] at R
      rw [if_neg (show ¬ κ = 1 by omega)] at R
      rw [if_neg (show ¬ κ = 2 by omega)] at R
      rw [if_neg (show ¬ κ = 3 by omega)] at R
      rw [if_pos (show κ = 4 by omega)] at R
      rw [if_neg (show ¬ κ = 0 by omega)] at k
      refine ⟨_, rfl, p, _, _, _, rfl, rfl, SqT.of hp1, rfl, rfl, _, rfl, iteE (fun z => absurd z (by omega)) (fun _ => ?_)⟩
      refine ⟨_, rfl, p, _, _, _, rfl, rfl, SqT.of hp1, rfl, rfl, _, rfl, iteE (fun z => absurd z (by omega)) (fun _ => ?_)⟩
      refine ⟨_, rfl, p, _, _, _, rfl, rfl, SqT.of hp1, rfl, rfl, _, rfl, iteE (fun z => absurd z (by omega)) (fun _ => ?_)⟩
      refine ⟨_, rfl, p, _, _, _, rfl, rfl, SqT.of hp1, rfl, rfl, _, rfl, iteE (fun z => absurd z (by omega)) (fun _ => ?_)⟩
      refine ⟨_, rfl, p, _, _, _, rfl, rfl, SqT.of hp1, rfl, rfl, _, rfl, iteE (fun z => absurd z (by omega)) (fun _ => ?_)⟩
      obtain ⟨hb, hv, hd⟩ := G.ok.signed e
      exact ⟨_, rfl, x, dr, _, rfl, rd, rfl, _, rfl, p, _, _, _, rfl, rfl, SqT.of hp1, rfl, x, a, ca, b, v, n, D, rfl, R, hb, hv, hd, k⟩
end
end Th
namespace Th
open PySem PySem.Spec PyProof.Rows L2
/-! ### the symbols that stand in the heap -/
def Al (H : Hp) : List Addr → List Thm.Sy → Prop
  | [], [] => True
  | p :: ps, y :: ys => (H p = some (syT y) ∧ SyG y) ∧ Al H ps ys
  | _, _ => False
theorem Al.mono {H H' : Hp} (h : ∀ p xs, H p = some (.tup xs) → H' p = some (.tup xs)) : ∀ {ps : List Addr} {ys : List Thm.Sy}, Al H ps ys → Al H' ps ys
  | [], [], _ => trivial
  | _ :: _, _ :: _, ⟨⟨a, g⟩, b⟩ => ⟨⟨h _ _ a, g⟩, Al.mono h b⟩
  | [], _ :: _, z => z.elim
  | _ :: _, [], z => z.elim
theorem Al.snoc {H : Hp} {p : Addr} {y : Thm.Sy} (h : H p = some (syT y)) (g : SyG y) : ∀ {ps : List Addr} {ys : List Thm.Sy}, Al H ps ys → Al H (ps ++ [p]) (ys ++ [y])
  | [], [], _ => ⟨⟨h, g⟩, trivial⟩
  | _ :: _, _ :: _, ⟨a, b⟩ => ⟨a, Al.snoc h g b⟩
  | [], _ :: _, z => z.elim
  | _ :: _, [], z => z.elim
theorem Al.length {H : Hp} : ∀ {ps : List Addr} {ys : List Thm.Sy}, Al H ps ys → ps.length = ys.length
  | [], [], _ => rfl
  | _ :: _, _ :: _, ⟨_, b⟩ => congrArg Nat.succ (Al.length b)
  | [], _ :: _, z => z.elim
  | _ :: _, [], z => z.elim
theorem Al.get {H : Hp} : ∀ {ps : List Addr} {ys : List Thm.Sy} {i : Nat} {p : Addr}, Al H ps ys → ps[i]? = some p → ∃ y, ys[i]? = some y ∧ H p = some (syT y) ∧ SyG y
  | p :: ps, y :: ys, 0, q, ⟨⟨a, g⟩, _⟩, e => by
    have e2 : p = q := Option.some.inj e
    rw [← e2]
    exact ⟨y, rfl, a, g⟩
  | _ :: _, _ :: _, i + 1, q, ⟨_, b⟩, e => Al.get (i := i) b e
  | [], [], i, q, _, e => by cases e
  | [], _ :: _, _, _, z, _ => z.elim
  | _ :: _, [], _, _, z, _ => z.elim
theorem Al.good {H : Hp} : ∀ {ps : List Addr} {ys : List Thm.Sy}, Al H ps ys → ∀ y ∈ ys, Thm.SyOk y
  | [], [], _, y, h => by cases h
  | _ :: _, _ :: _, ⟨⟨_, g⟩, b⟩, y, h => by
    rcases List.mem_cons.mp h with e | h
    · rw [e]
      exact g.ok
    · exact Al.good b y h
  | [], _ :: _, z, _, _ => z.elim
  | _ :: _, [], z, _, _ => z.elim
theorem Al.same {H H' : Hp} {ps : List Addr} {ys : List Thm.Sy} (h : Al H ps ys) (s : Same H H') : Al H' ps ys := h.mono fun p xs e => s p _ e
theorem EAt.same {K : PySem.W.Frag} {H H' : Hp} {a ca : Addr} {s : Thm.ES} (h : EAt K H a ca s) (k : Same H H') : EAt K H' a ca s := by
  obtain ⟨dx, e⟩ := h.ob
  exact ⟨⟨dx, k _ _ e⟩, k _ _ h.ch⟩
theorem map_ref_get {ps : List Addr} {i : Nat} {v : V} (h : (ps.map V.ref)[i]? = some v) : ∃ p, ps[i]? = some p ∧ v = .ref p := by
  rw [List.getElem?_map] at h
  cases e : ps[i]? with
  | none =>
    rw [e] at h
    cases h
  | some p =>
    rw [e] at h
    exact ⟨p, rfl, (Option.some.inj h).symm⟩
theorem allD_take {ys : List Thm.Sy} {i : Nat} {y : Thm.Sy} (h : ys[i]? = some y) : Thm.allD (ys.take (i + 1)) = Thm.allD (ys.take i) ++ Thm.syD y := by
  rw [List.take_succ, h, Thm.allD_append]
  show _ = _
  rw [Option.toList, Thm.allD_cons]
  show _ ++ (_ ++ []) = _
  rw [List.append_nil]
theorem allD_drop {ys : List Thm.Sy} {i : Nat} {y : Thm.Sy} (h : ys[i]? = some y) : Thm.allD (ys.drop i) = Thm.syD y ++ Thm.allD (ys.drop (i + 1)) := by
  obtain ⟨hl, e⟩ := List.getElem?_eq_some_iff.mp h
  rw [List.drop_eq_getElem_cons hl, e, Thm.allD_cons]
section
variable {P : Program} {w : World} {K : PySem.W.Frag} {mg : Str → Option Value} {base : Heap}
def spLaw (K : PySem.W.Frag) : Sp := fun vs H Q _ => ∃ (a : Addr) (ns : List Int), vs = [.ref a] ∧ SqL K H a (ns.map V.int) ∧ ns.length ≤ 63 ∧ ∀ H', Q (.bl true) H'
abbrev nLaw : List Str := ["_law_script", "_law_symbols", "_law_encoder", "_law_writer", "_law_symbol_here", "_law_reader", "_law_value", "_law_cell_here"]
theorem scLaw : FnScope nLaw ["_law_script"] (defScope sLaw) := ⟨rfl, rfl, rfl, by decide +kernel, rfl, by decide +kernel, by decide +kernel⟩
theorem okLaw {f : Addr} {fd : FuncData} (F : Fun K "law" "law" sLaw f fd) (T : Txt K mg) (cSy : C8.Cal P w K mg base 2 "_law_symbol" spSym []) (cPu : C8.Cal P w K mg base 6 "_law_put" (spPut K) []) (cGe : C8.Cal P w K mg base 7 "_law_get" (spGet K) [])
    {fE : Addr} {fdE : FuncData} (mE : Mk K (cE K) fE) (gE : mg "Encoder" = some (.ref (cE K))) (GE : FnOk P w K mg base CX0 1 fE fdE ["self"] (spEinit K)) (bE : Binds K fdE ["self"] [])
    (cWr : C8.Mak P w K mg base 1 "SymbolWriter" (cW K) (spWinit K) []) (cDe : C8.Mak P w K mg base 2 "Decoder" (cD K) (spDinit K) []) (cRe : C8.Mak P w K mg base 1 "SymbolReader" (cR K) (spRinit K) [])
    (mOc : C8.Met P w K mg base 1 (cE K) "octets" (spEocts K) []) : FnOk P w K mg base CX0 8 f fd ["_law_script"] (spLaw K) := by
  refine F.ok scLaw (fun vs H Q E h => ?_) (fun cdv A outer s H vs Q E hr h => ?_)
  · obtain ⟨a, ns, rfl, _⟩ := h
    rfl
  · obtain ⟨a, ns, rfl, hS, hlen, k⟩ := h
    refine ⟨_, (pss_cons (ps_setLc (i := 1) (own := [("_law_cell_here", 7)]) (g := gName 7) (tt := tYes) rfl scLaw.nd rfl rfl (sw_true rfl rfl rfl (by decide +kernel)) (pi_list (pv 0)) (blkOk_by (own := [("_law_cell_here", 7)]) (N := nLaw) (sc := defScope sLaw) (by decide +kernel)) (fun _ _ _ _ _ => pg_name (i := 7) scLaw.nd rfl (Or.inl rfl)) (fun _ _ _ _ _ => pts_nil) (fun _ _ _ _ _ => (C8.pe_c cSy hr (by decide) rfl (pa_cons (pv 7) pa_nil))))
      (pss_cons (ps_set (i := 2) scLaw.nd rfl (Or.inl rfl) (pe_make0 mE GE (hr.mono (by decide)) rfl gE bE .nil pass0))
      (pss_cons (ps_set (i := 3) scLaw.nd rfl (Or.inl rfl) (C8.pe_mk cWr hr (by decide) rfl (pa_cons (pv 2) pa_nil)))
      (pss_cons (ps_for PassesOwn.never rfl (pi_list (pv 1)) (pg_name (i := 4) scLaw.nd rfl (Or.inl rfl)) (pss_one (ps_expr (C8.pe_c cPu hr (by decide) rfl (pa_cons (pv 3) (pa_cons (pv 4) pa_nil))))))
      (pss_cons (ps_set (i := 5) scLaw.nd rfl (Or.inl rfl) (C8.pe_mk cRe hr (by decide) rfl (pa_cons (C8.pe_mk cDe hr (by decide) rfl (pa_cons (C8.pe_mt0 mOc hr (by decide) (pv 2)) pa_nil)) pa_nil)))
      (pss_cons (ps_for PassesOwn.never rfl (pi_list (pv 1)) (pg_name (i := 4) scLaw.nd rfl (Or.inl rfl)) (pss_cons (ps_set (i := 6) scLaw.nd rfl (Or.inl rfl) (C8.pe_c cGe hr (by decide) rfl (pa_cons (pv 5) (pa_cons (pv 4) pa_nil)))) (pss_cons (ps_if (PW.pt (pw_and (pt_cmpR op_eq (pe_ix ix_tup (pv 4) pe_int (fun _ _ => rfl)) pe_int (nomark _)) (pw_and1 (PW.pt (pw_or (pt_not (pt_val (pe_callB call_isi (by rfl) T.isi (by decide +kernel) (pa_cons (pv 6) (pa_cons (pe_bltn (v := .ty "bool") (by rfl) T.bool (by decide +kernel) rfl) pa_nil))))) (pw_or1 (pt_cmpR op_ne (pv 6) (pe_cmpR op_eq (pe_ix ix_tup (pv 4) pe_int (fun _ _ => rfl)) pe_int (nomark _)) (by rfl)))))))) (pss_one (ps_ret pe_bl)) pss_nil) (pss_one (ps_if (PW.pt (pw_and (pt_cmpR op_gt (pe_ix ix_tup (pv 4) pe_int (fun _ _ => rfl)) pe_int (nomark _)) (pw_and1 (PW.pt (pw_or (pt_not (pt_val (pe_callB call_isi (by rfl) T.isi (by decide +kernel) (pa_cons (pv 6) (pa_cons (pe_bltn (v := .ty "int") (by rfl) T.int (by decide +kernel) rfl) pa_nil))))) (pw_or (pt_val (pe_callB call_isi (by rfl) T.isi (by decide +kernel) (pa_cons (pv 6) (pa_cons (pe_bltn (v := .ty "bool") (by rfl) T.bool (by decide +kernel) rfl) pa_nil)))) (pw_or1 (pt_cmpR op_ne (pv 6) (pe_ix ix_tup (pv 4) pe_int (fun _ _ => rfl)) (by rfl))))))))) (pss_one (ps_ret pe_bl)) pss_nil)))))
      (pss_one (ps_ret pe_bl)))))))), ?_⟩
    -- the symbols
    refine ⟨_, rfl, a, rfl, ⟨_, hS⟩, fun D hD => lc_list (K := K) (a := a) (xs := ns.map V.int) (fun i H' => ∃ (ps : List Addr) (ys : List Thm.Sy), H' D = some (.lst (ps.map V.ref)) ∧ ps.length = i ∧ Al H' ps ys ∧ Same H H')
      ⟨[], [], upd_same, rfl, trivial, same_new hD⟩ (fun i H' _ ⟨_, _, _, _, _, sm⟩ => sm.seq hS) ?_ ?_⟩
    · rintro i x H' hi ⟨ps, ys, hL, hl, al, sm⟩
      obtain ⟨u, rfl⟩ : ∃ u, x = V.int u := by
        rw [List.getElem?_map] at hi
        cases e : ns[i]? with
        | none =>
          rw [e] at hi
          cases hi
        | some u =>
          rw [e] at hi
          exact ⟨u, (Option.some.inj hi).symm⟩
      have hi63 : i < ns.length := by
        have q := (List.getElem?_eq_some_iff.mp hi).1
        rw [List.length_map] at q
        exact q
      refine ⟨rfl, ?_⟩
      refine iteT (B := ∃ (ps : List Addr) (ys : List Thm.Sy), H' D = some (.lst (ps.map V.ref)) ∧ ps.length = i + 1 ∧ Al H' ps ys ∧ Same H H') ?_
      refine ⟨_, rfl, u, rfl, fun p H2 y hp sm2 G hy => ?_⟩
      refine ⟨ps.map V.ref, sm2 _ _ hL, ?_, ps ++ [p], ys ++ [y], ?_, ?_, ?_, ?_⟩
      · rw [List.length_map, hl]
        exact small1000 (by omega)
      · rw [upd_same, List.map_append]
        rfl
      · rw [List.length_append, hl]
        rfl
      · have al2 : Al H2 (ps ++ [p]) (ys ++ [y]) := (al.same sm2).snoc hy G
        exact al2.mono fun q xs e => by
          rw [upd_ne (ne_of e (sm2 _ _ hL) (by intro z; cases z))]
          exact e
      · exact same_upd (sm.trans sm2) hD
    · rintro H1 ⟨ps, ys, hL, hl, al, sm⟩
      rw [List.length_map] at hl
      have hps : ps.length ≤ 63 := by omega
      have hys : ys.length ≤ 63 := by
        rw [← al.length]
        exact hps
      -- the encoder
      intro e dx ne ndx nex
      have sA : Same H1 (upd (upd H1 dx (.own e)) e (.ins (cE K) dx [])) := fun b o q => by
        rw [upd_ne (ne_of_none q ne), upd_ne (ne_of_none q ndx)]
        exact q
      refine ⟨e, dx, rfl, upd_same, fun ca H2 hca R2 fr2 => ⟨rfl, ?_⟩⟩
      have s2 : Same H1 H2 := fun b o q => fr2 b o (sA _ _ q) (ne_of_none q ne)
      have hca1 : H1 ca = none := sA.free hca
      have nDca : D ≠ ca := ne_of_none hL hca1
      -- the writer
      refine ⟨_, rfl, fun x dw nx ndw nwx => ?_⟩
      refine ⟨x, dw, e, rfl, upd_same, rfl, ?_⟩
      rw [upd_upd]
      have s3 : Same H2 (upd (upd H2 dw (.own x)) x (.ins (cW K) dw [("encoder", .ref e)])) := fun b o q => by
        rw [upd_ne (ne_of_none q nx), upd_ne (ne_of_none q ndw)]
        exact q
      have R3 := R2.same s3
      obtain ⟨dxe, obe⟩ := R2.ob
      have W3 : WAt K (upd (upd H2 dw (.own x)) x (.ins (cW K) dw [("encoder", .ref e)])) x e ca Thm.e0 := ⟨⟨dw, upd_same⟩, R3, (ne_of_none obe nx).symm⟩
      have s13 := s2.trans s3
      have L3 := s13 _ _ hL
      have al3 := al.same s13
      generalize upd (upd H2 dw (.own x)) x (.ins (cW K) dw [("encoder", .ref e)]) = H3 at W3 L3 al3 ⊢
      -- the writing
      refine ⟨_, rfl, D, rfl, ⟨_, SqL.of L3⟩, for_list (K := K) (a := D) (xs := ps.map V.ref) (fun i σ H' => ∃ v4 : Option V, σ = [some (.ref a), some (.ref D), some (.ref e), some (.ref x), v4, none, none, none] ∧
          WAt K H' x e ca (Thm.eFold Thm.e0 (Thm.allD (ys.take i))) ∧ Al H' ps ys ∧ H' D = some (.lst (ps.map V.ref)))
        ⟨none, rfl, W3, al3, L3⟩ (fun i σ H' _ ⟨_, _, _, _, q⟩ => SqL.of q) ?_ ?_⟩
      · rintro i v σ H' hi ⟨v4, rfl, W, al', L'⟩
        obtain ⟨p, hp, rfl⟩ := map_ref_get hi
        obtain ⟨y, hy, hpy, G⟩ := al'.get hp
        have okk : Thm.EOk (Thm.eFold Thm.e0 (Thm.allD (ys.take i))) := Thm.eFold_ok Thm.e0_ok (Thm.allD_ok fun z hz => al.good z (List.mem_of_mem_take hz))
        obtain ⟨dxe', ob'⟩ := W.en.ob
        refine ⟨_, rfl, _, rfl, x, e, ca, _, y, p, rfl, W, okk, G, hpy, fun H4 W4 fr4 => ?_⟩
        refine ⟨_, rfl, ?_, al'.mono (fun q xs z => tup_frm fr4 z ob' W.en.ch), fr4 _ _ L' (ne_of L' ob' (by intro z; cases z)) nDca⟩
        rw [allD_take hy, Thm.eFold_append]
        exact W4
      · rintro σ H' ⟨v4, rfl, W, al', L'⟩
        rw [List.length_map, al.length, List.take_length] at W
        obtain ⟨dxe', ob'⟩ := W.en.ob
        have hsh : (Thm.eFold Thm.e0 (Thm.allD ys)).sh ≤ 100000 := by
          have h1 := @Thm.eFold_sh (Thm.allD ys) Thm.e0
          have h2 := Thm.allD_length (l := ys) al.good
          have h3 : Thm.e0.sh = 0 := rfl
          omega
        -- the octets, the decoder
        refine ⟨_, rfl, e, dxe', _, rfl, ob', rfl, e, ca, _, rfl, W.en, hsh, fun o H5 ho s5 hoct => ?_⟩
        intro d dd nd ndd nded
        have no : o ≠ d := ne_of_none hoct nd
        have nod : o ≠ dd := ne_of_none hoct ndd
        refine ⟨d, dd, o, Thm.octs (Thm.eFold Thm.e0 (Thm.allD ys)), rfl, upd_same, (by rw [upd_ne no, upd_ne nod]; exact hoct), fun ca2 sa H6 hca2 hsa R6 fr6 => ⟨rfl, ?_⟩⟩
        have sB : Same H5 (upd (upd H5 dd (.own d)) d (.ins (cD K) dd [])) := fun b u q => by
          rw [upd_ne (ne_of_none q nd), upd_ne (ne_of_none q ndd)]
          exact q
        have s6 : Same H5 H6 := fun b u q => fr6 b u (sB _ _ q) (ne_of_none q nd)
        have L6 := s6 _ _ (s5 _ _ L')
        have nDca2 : D ≠ ca2 := ne_of_none (s5 _ _ L') (sB.free hca2)
        -- the reader
        intro r dr nr ndr ndrr
        refine ⟨r, dr, d, rfl, upd_same, rfl, ?_⟩
        rw [upd_upd]
        have s7 : Same H6 (upd (upd H6 dr (.own r)) r (.ins (cR K) dr [("decoder", .ref d)])) := fun b u q => by
          rw [upd_ne (ne_of_none q nr), upd_ne (ne_of_none q ndr)]
          exact q
        obtain ⟨ddd, obd⟩ := R6.ob
        have Q7 : QAt K (upd (upd H6 dr (.own r)) r (.ins (cR K) dr [("decoder", .ref d)])) r d ca2 (Thm.allD ys) :=
          ⟨⟨dr, upd_same⟩, ⟨sa, _, ⟨⟨ddd, s7 _ _ obd⟩, s7 _ _ R6.ch, s7 _ _ R6.sr, R6.ns⟩, Thm.d0_ok _, Thm.reads (Thm.allD_ok al.good)⟩, (ne_of_none obd nr).symm⟩
        have L7 := s7 _ _ L6
        have al7 := ((al'.same s5).same s6).same s7
        generalize upd (upd H6 dr (.own r)) r (.ins (cR K) dr [("decoder", .ref d)]) = H7 at Q7 L7 al7 ⊢
        -- the reading
        refine ⟨_, rfl, D, rfl, ⟨_, SqL.of L7⟩, for_list (K := K) (a := D) (xs := ps.map V.ref) (fun i σ H' => ∃ v4 v6 : Option V, σ = [some (.ref a), some (.ref D), some (.ref e), some (.ref x), v4, some (.ref r), v6, none] ∧
            QAt K H' r d ca2 (Thm.allD (ys.drop i)) ∧ Al H' ps ys ∧ H' D = some (.lst (ps.map V.ref)))
          ⟨v4, none, rfl, Q7, al7, L7⟩ (fun i σ H' _ ⟨_, _, _, _, _, q⟩ => SqL.of q) ?_ ?_⟩
        · rintro i v σ H8 hi ⟨v4', v6, rfl, Q8, al8, L8⟩
          obtain ⟨p, hp, rfl⟩ := map_ref_get hi
          obtain ⟨y, hy, hpy, G⟩ := al8.get hp
          rw [allD_drop hy] at Q8
          obtain ⟨sa8, t8, R8, _, _⟩ := Q8.de
          obtain ⟨dx8, ob8⟩ := R8.ob
          refine ⟨_, rfl, _, rfl, r, d, ca2, y, p, _, rfl, Q8, G, hpy, fun H9 Q9 fr9 => ?_⟩
          have p9 : H9 p = some (.tup [.int y.k, .int y.b, .int y.v, .int y.c]) := tup_frm fr9 hpy ob8 R8.ch
          have nxt : ∃ v4 v6' : Option V, [some (V.ref a), some (.ref D), some (.ref e), some (.ref x), some (.ref p), some (.ref r), some (syV y), none] = [some (.ref a), some (.ref D), some (.ref e), some (.ref x), v4, some (.ref r), v6', none] ∧
              QAt K H9 r d ca2 (Thm.allD (ys.drop (i + 1))) ∧ Al H9 ps ys ∧ H9 D = some (.lst (ps.map V.ref)) :=
            ⟨_, _, rfl, Q9, al8.mono (fun q xs z => tup_frm fr9 z ob8 R8.ch), fr9 _ _ L8 (ne_of L8 ob8 (by intro z; cases z)) nDca2⟩
          have hk := G.ok.kind
          unfold syV at nxt ⊢
          refine ⟨_, rfl, p, _, _, _, rfl, rfl, SqT.of p9, rfl, rfl, _, rfl, iteE (fun e0 => ?_) (fun e0 => iteF ?_)⟩
          · rw [if_pos e0] at nxt ⊢
            refine ⟨_, rfl, _, _, _, _, _, rfl, .ty _, .base (.bl _), kit_ty (r := true) (by decide +kernel), _, rfl, iteF ?_⟩
            refine ⟨_, rfl, _, rfl, p, _, _, _, rfl, rfl, SqT.of p9, rfl, rfl, rfl, _, rfl, ?_⟩
            rw [dec_int, decide_eq_true (rfl : V.bl (decide (y.v = 1)) = V.bl (decide (y.v = 1)))]
            refine iteF ?_
            refine ⟨_, rfl, p, _, _, _, rfl, rfl, SqT.of p9, rfl, _, _, rfl, rfl, _, rfl, iteB (fun z => absurd z (by omega)) (fun _ => iteF nxt)⟩
          · rw [if_neg e0] at nxt ⊢
            refine ⟨_, rfl, p, _, _, _, rfl, rfl, SqT.of p9, rfl, _, _, rfl, rfl, _, rfl, iteB (fun _ => ?_) (fun z => absurd (show 0 < y.k by omega) z)⟩
            refine ⟨_, rfl, _, _, _, _, _, rfl, .ty _, .base (.int _), kit_ty (r := true) (by decide +kernel), _, rfl, iteF ?_⟩
            refine ⟨_, rfl, _, _, _, _, _, rfl, .ty _, .base (.int _), kit_ty (r := false) (by decide +kernel), _, rfl, iteF ?_⟩
            refine ⟨_, rfl, _, rfl, p, _, _, _, rfl, rfl, SqT.of p9, rfl, rfl, _, rfl, ?_⟩
            rw [decide_eq_true (rfl : V.int y.v = V.int y.v)]
            exact iteF nxt
        · rintro σ H8 _
          exact k H8
end
end Th
namespace Th
open PySem PySem.Spec PyProof.Rows L2
def dG (x : Str) (st : Stmt) : He.DefD := ⟨(x, none), x, x, defArgs st, defBody st, defScope st, [], []⟩
def dM (c x q : Str) (st : Stmt) : He.DefD := ⟨(c, some x), x, q, defArgs st, defBody st, defScope st, [], []⟩
def fn : List He.DefD := [
  dG "check_contexts" sCxs, dG "check_choice" sCch, dG "check_unary" sCun,
  dM "SymbolWriter" "__init__" "SymbolWriter.__init__" sWinit, dM "SymbolWriter" "even" "SymbolWriter.even" sWeven, dM "SymbolWriter" "flag" "SymbolWriter.flag" sWflag,
  dM "SymbolWriter" "choice" "SymbolWriter.choice" sWchoice, dM "SymbolWriter" "unary" "SymbolWriter.unary" sWunary, dM "SymbolWriter" "number" "SymbolWriter.number" sWnumber,
  dM "SymbolWriter" "signed" "SymbolWriter.signed" sWsigned,
  dM "SymbolReader" "__init__" "SymbolReader.__init__" sRinit, dM "SymbolReader" "even" "SymbolReader.even" sReven, dM "SymbolReader" "flag" "SymbolReader.flag" sRflag,
  dM "SymbolReader" "choice" "SymbolReader.choice" sRchoice, dM "SymbolReader" "unary" "SymbolReader.unary" sRunary, dM "SymbolReader" "number" "SymbolReader.number" sRnumber,
  dM "SymbolReader" "signed" "SymbolReader.signed" sRsigned,
  dG "adapted" sAda, dG "check_context" sCcx, dG "check_decision" sCde,
  dM "Encoder" "__init__" "Encoder.__init__" sEinit, dM "Encoder" "step" "Encoder.step" sEstep, dM "Encoder" "code" "Encoder.code" sEcode,
  dM "Encoder" "code_even" "Encoder.code_even" sEeven, dM "Encoder" "octets" "Encoder.octets" sEocts,
  dM "Decoder" "__init__" "Decoder.__init__" sDinit, dM "Decoder" "following" "Decoder.following" sDfoll, dM "Decoder" "step" "Decoder.step" sDstep,
  dM "Decoder" "read" "Decoder.read" sDread, dM "Decoder" "read_even" "Decoder.read_even" sDeven,
  dG "_law_draws" sDraws, dG "_law_symbol" sSym, dG "_law_put" sPut, dG "_law_get" sGet, dG "law" sLaw]
def fa : List He.Fa := [
  .glo "check_contexts", .glo "check_choice", .glo "check_unary", .glo "SymbolWriter", .glo "SymbolReader", .glo "adapted", .glo "check_context", .glo "check_decision",
  .glo "Encoder", .glo "Decoder", .glo "_law_draws", .glo "_law_symbol", .glo "_law_put", .glo "_law_get", .glo "law",
  .int "MAX_NUMBER" 1048576, .int "PREFIX" 20, .int "CONTEXTS" 256, .int "EVEN" 2048, .int "FULL" 4294967295, .int "LEAST" 16777216,
  .free "len", .free "range", .free "min", .free "max", .free "abs", .free "int", .free "bool", .free "isinstance", .free "list",
  .cls "SymbolWriter", .cls "SymbolReader", .cls "Encoder", .cls "Decoder",
  .noat "SymbolWriter" "encoder", .noat "SymbolReader" "decoder",
  .noat "Encoder" "chances", .noat "Encoder" "low", .noat "Encoder" "span", .noat "Encoder" "shifts",
  .noat "Decoder" "chances", .noat "Decoder" "source", .noat "Decoder" "place", .noat "Decoder" "span", .noat "Decoder" "value",
  .meth "SymbolWriter" "even", .meth "SymbolWriter" "flag", .meth "SymbolWriter" "choice", .meth "SymbolWriter" "unary", .meth "SymbolWriter" "number", .meth "SymbolWriter" "signed",
  .meth "SymbolReader" "even", .meth "SymbolReader" "flag", .meth "SymbolReader" "choice", .meth "SymbolReader" "unary", .meth "SymbolReader" "number", .meth "SymbolReader" "signed",
  .meth "Encoder" "step", .meth "Encoder" "code", .meth "Encoder" "code_even", .meth "Encoder" "octets",
  .meth "Decoder" "following", .meth "Decoder" "step", .meth "Decoder" "read", .meth "Decoder" "read_even",
  .mkr "SymbolWriter", .mkr "SymbolReader", .mkr "Encoder", .mkr "Decoder"]
abbrev R : PySem.W.OpenRow := PySem.W.OpenLaw.row PySem.Challenge.rw_thaumatrope_k16_whole_symbols_read_back
abbrev hk : PySem.W.Hook := He.hookD 4 fa fn
def ob (s : PySem.W.SharedT) : He.AlD := He.obsDG 4 fa fn (HandSHeadRun.getT s)
theorem ob_eq (s : PySem.W.SharedT) : ob s = hk.obs s.abs := He.obsDG_eq (HandSHeadRun.getT_eq s)
def names : List Str := ["CodecError", "OutOfRange", "MAX_NUMBER", "PREFIX", "check_contexts", "check_choice", "check_unary", "SymbolWriter", "SymbolReader", "CONTEXTS", "EVEN", "FULL", "LEAST", "adapted", "check_context", "check_decision", "Encoder", "Decoder", "_law_cell", "_law_draws", "_law_symbol", "_law_put", "_law_get"]
theorem run (w : World) : HandSHeadRun.RunEq R (PySem.W.view R.prog [27]) hk ob 4000 names w := by
  intro os
  kernel_rfl
end Th
namespace Th
open PySem PySem.Spec PyProof.Rows L2
section
variable {P : Program} {w : World} {K : PySem.W.Frag} {h : Heap} {mg : Str → Option Value}
theorem txt (X : K.In h) (G : h.Ns mainGlobals mg) (c : He.SaysD fa fn K) : Txt K mg :=
  { maxn := He.int_ok X G (c.fact 15 (f := .int "MAX_NUMBER" 1048576) rfl),
    prefx := He.int_ok X G (c.fact 16 (f := .int "PREFIX" 20) rfl),
    ctxs := He.int_ok X G (c.fact 17 (f := .int "CONTEXTS" 256) rfl),
    evn := He.int_ok X G (c.fact 18 (f := .int "EVEN" 2048) rfl),
    full := He.int_ok X G (c.fact 19 (f := .int "FULL" 4294967295) rfl),
    least := He.int_ok X G (c.fact 20 (f := .int "LEAST" 16777216) rfl),
    len := He.free_ok X G (c.fact 21 (f := .free "len") rfl),
    range := He.free_ok X G (c.fact 22 (f := .free "range") rfl),
    min := He.free_ok X G (c.fact 23 (f := .free "min") rfl),
    max := He.free_ok X G (c.fact 24 (f := .free "max") rfl),
    abs := He.free_ok X G (c.fact 25 (f := .free "abs") rfl),
    int := He.free_ok X G (c.fact 26 (f := .free "int") rfl),
    bool := He.free_ok X G (c.fact 27 (f := .free "bool") rfl),
    isi := He.free_ok X G (c.fact 28 (f := .free "isinstance") rfl),
    list := He.free_ok X G (c.fact 29 (f := .free "list") rfl),
    clE := He.cls_ok (c.fact 32 (f := .cls "Encoder") rfl),
    clD := He.cls_ok (c.fact 33 (f := .cls "Decoder") rfl),
    clW := He.cls_ok (c.fact 30 (f := .cls "SymbolWriter") rfl),
    clR := He.cls_ok (c.fact 31 (f := .cls "SymbolReader") rfl),
    nWe := He.noat_ok (c.fact 34 (f := .noat "SymbolWriter" "encoder") rfl),
    nRd := He.noat_ok (c.fact 35 (f := .noat "SymbolReader" "decoder") rfl),
    nEc := He.noat_ok (c.fact 36 (f := .noat "Encoder" "chances") rfl),
    nEl := He.noat_ok (c.fact 37 (f := .noat "Encoder" "low") rfl),
    nEs := He.noat_ok (c.fact 38 (f := .noat "Encoder" "span") rfl),
    nEh := He.noat_ok (c.fact 39 (f := .noat "Encoder" "shifts") rfl),
    nDc := He.noat_ok (c.fact 40 (f := .noat "Decoder" "chances") rfl),
    nDs := He.noat_ok (c.fact 41 (f := .noat "Decoder" "source") rfl),
    nDp := He.noat_ok (c.fact 42 (f := .noat "Decoder" "place") rfl),
    nDn := He.noat_ok (c.fact 43 (f := .noat "Decoder" "span") rfl),
    nDv := He.noat_ok (c.fact 44 (f := .noat "Decoder" "value") rfl) }
/-! ### each def as it stands -/
theorem f_check_contexts (c : He.SaysD fa fn K) : ∃ fd, Fun K "check_contexts" "check_contexts" sCxs (He.ga K "check_contexts") fd := by
  obtain ⟨fd, F⟩ := c.def_ 0 (d := dG "check_contexts" sCxs) rfl
  exact ⟨fd, toFun F⟩
theorem f_check_choice (c : He.SaysD fa fn K) : ∃ fd, Fun K "check_choice" "check_choice" sCch (He.ga K "check_choice") fd := by
  obtain ⟨fd, F⟩ := c.def_ 1 (d := dG "check_choice" sCch) rfl
  exact ⟨fd, toFun F⟩
theorem f_check_unary (c : He.SaysD fa fn K) : ∃ fd, Fun K "check_unary" "check_unary" sCun (He.ga K "check_unary") fd := by
  obtain ⟨fd, F⟩ := c.def_ 2 (d := dG "check_unary" sCun) rfl
  exact ⟨fd, toFun F⟩
theorem f_SymbolWriter_init (c : He.SaysD fa fn K) : ∃ fd, Fun K "__init__" "SymbolWriter.__init__" sWinit (He.ma K (He.ga K "SymbolWriter") "__init__") fd := by
  obtain ⟨fd, F⟩ := c.def_ 3 (d := dM "SymbolWriter" "__init__" "SymbolWriter.__init__" sWinit) rfl
  exact ⟨fd, toFun F⟩
theorem f_SymbolWriter_even (c : He.SaysD fa fn K) : ∃ fd, Fun K "even" "SymbolWriter.even" sWeven (He.ma K (He.ga K "SymbolWriter") "even") fd := by
  obtain ⟨fd, F⟩ := c.def_ 4 (d := dM "SymbolWriter" "even" "SymbolWriter.even" sWeven) rfl
  exact ⟨fd, toFun F⟩
theorem f_SymbolWriter_flag (c : He.SaysD fa fn K) : ∃ fd, Fun K "flag" "SymbolWriter.flag" sWflag (He.ma K (He.ga K "SymbolWriter") "flag") fd := by
  obtain ⟨fd, F⟩ := c.def_ 5 (d := dM "SymbolWriter" "flag" "SymbolWriter.flag" sWflag) rfl
  exact ⟨fd, toFun F⟩
theorem f_SymbolWriter_choice (c : He.SaysD fa fn K) : ∃ fd, Fun K "choice" "SymbolWriter.choice" sWchoice (He.ma K (He.ga K "SymbolWriter") "choice") fd := by
  obtain ⟨fd, F⟩ := c.def_ 6 (d := dM "SymbolWriter" "choice" "SymbolWriter.choice" sWchoice) rfl
  exact ⟨fd, toFun F⟩
theorem f_SymbolWriter_unary (c : He.SaysD fa fn K) : ∃ fd, Fun K "unary" "SymbolWriter.unary" sWunary (He.ma K (He.ga K "SymbolWriter") "unary") fd := by
  obtain ⟨fd, F⟩ := c.def_ 7 (d := dM "SymbolWriter" "unary" "SymbolWriter.unary" sWunary) rfl
  exact ⟨fd, toFun F⟩
theorem f_SymbolWriter_number (c : He.SaysD fa fn K) : ∃ fd, Fun K "number" "SymbolWriter.number" sWnumber (He.ma K (He.ga K "SymbolWriter") "number") fd := by
  obtain ⟨fd, F⟩ := c.def_ 8 (d := dM "SymbolWriter" "number" "SymbolWriter.number" sWnumber) rfl
  exact ⟨fd, toFun F⟩
theorem f_SymbolWriter_signed (c : He.SaysD fa fn K) : ∃ fd, Fun K "signed" "SymbolWriter.signed" sWsigned (He.ma K (He.ga K "SymbolWriter") "signed") fd := by
  obtain ⟨fd, F⟩ := c.def_ 9 (d := dM "SymbolWriter" "signed" "SymbolWriter.signed" sWsigned) rfl
  exact ⟨fd, toFun F⟩
theorem f_SymbolReader_init (c : He.SaysD fa fn K) : ∃ fd, Fun K "__init__" "SymbolReader.__init__" sRinit (He.ma K (He.ga K "SymbolReader") "__init__") fd := by
  obtain ⟨fd, F⟩ := c.def_ 10 (d := dM "SymbolReader" "__init__" "SymbolReader.__init__" sRinit) rfl
  exact ⟨fd, toFun F⟩
theorem f_SymbolReader_even (c : He.SaysD fa fn K) : ∃ fd, Fun K "even" "SymbolReader.even" sReven (He.ma K (He.ga K "SymbolReader") "even") fd := by
  obtain ⟨fd, F⟩ := c.def_ 11 (d := dM "SymbolReader" "even" "SymbolReader.even" sReven) rfl
  exact ⟨fd, toFun F⟩
theorem f_SymbolReader_flag (c : He.SaysD fa fn K) : ∃ fd, Fun K "flag" "SymbolReader.flag" sRflag (He.ma K (He.ga K "SymbolReader") "flag") fd := by
  obtain ⟨fd, F⟩ := c.def_ 12 (d := dM "SymbolReader" "flag" "SymbolReader.flag" sRflag) rfl
  exact ⟨fd, toFun F⟩
theorem f_SymbolReader_choice (c : He.SaysD fa fn K) : ∃ fd, Fun K "choice" "SymbolReader.choice" sRchoice (He.ma K (He.ga K "SymbolReader") "choice") fd := by
  obtain ⟨fd, F⟩ := c.def_ 13 (d := dM "SymbolReader" "choice" "SymbolReader.choice" sRchoice) rfl
  exact ⟨fd, toFun F⟩
theorem f_SymbolReader_unary (c : He.SaysD fa fn K) : ∃ fd, Fun K "unary" "SymbolReader.unary" sRunary (He.ma K (He.ga K "SymbolReader") "unary") fd := by
  obtain ⟨fd, F⟩ := c.def_ 14 (d := dM "SymbolReader" "unary" "SymbolReader.unary" sRunary) rfl
  exact ⟨fd, toFun F⟩
theorem f_SymbolReader_number (c : He.SaysD fa fn K) : ∃ fd, Fun K "number" "SymbolReader.number" sRnumber (He.ma K (He.ga K "SymbolReader") "number") fd := by
  obtain ⟨fd, F⟩ := c.def_ 15 (d := dM "SymbolReader" "number" "SymbolReader.number" sRnumber) rfl
  exact ⟨fd, toFun F⟩
theorem f_SymbolReader_signed (c : He.SaysD fa fn K) : ∃ fd, Fun K "signed" "SymbolReader.signed" sRsigned (He.ma K (He.ga K "SymbolReader") "signed") fd := by
  obtain ⟨fd, F⟩ := c.def_ 16 (d := dM "SymbolReader" "signed" "SymbolReader.signed" sRsigned) rfl
  exact ⟨fd, toFun F⟩
theorem f_adapted (c : He.SaysD fa fn K) : ∃ fd, Fun K "adapted" "adapted" sAda (He.ga K "adapted") fd := by
  obtain ⟨fd, F⟩ := c.def_ 17 (d := dG "adapted" sAda) rfl
  exact ⟨fd, toFun F⟩
theorem f_check_context (c : He.SaysD fa fn K) : ∃ fd, Fun K "check_context" "check_context" sCcx (He.ga K "check_context") fd := by
  obtain ⟨fd, F⟩ := c.def_ 18 (d := dG "check_context" sCcx) rfl
  exact ⟨fd, toFun F⟩
theorem f_check_decision (c : He.SaysD fa fn K) : ∃ fd, Fun K "check_decision" "check_decision" sCde (He.ga K "check_decision") fd := by
  obtain ⟨fd, F⟩ := c.def_ 19 (d := dG "check_decision" sCde) rfl
  exact ⟨fd, toFun F⟩
theorem f_Encoder_init (c : He.SaysD fa fn K) : ∃ fd, Fun K "__init__" "Encoder.__init__" sEinit (He.ma K (He.ga K "Encoder") "__init__") fd := by
  obtain ⟨fd, F⟩ := c.def_ 20 (d := dM "Encoder" "__init__" "Encoder.__init__" sEinit) rfl
  exact ⟨fd, toFun F⟩
theorem f_Encoder_step (c : He.SaysD fa fn K) : ∃ fd, Fun K "step" "Encoder.step" sEstep (He.ma K (He.ga K "Encoder") "step") fd := by
  obtain ⟨fd, F⟩ := c.def_ 21 (d := dM "Encoder" "step" "Encoder.step" sEstep) rfl
  exact ⟨fd, toFun F⟩
theorem f_Encoder_code (c : He.SaysD fa fn K) : ∃ fd, Fun K "code" "Encoder.code" sEcode (He.ma K (He.ga K "Encoder") "code") fd := by
  obtain ⟨fd, F⟩ := c.def_ 22 (d := dM "Encoder" "code" "Encoder.code" sEcode) rfl
  exact ⟨fd, toFun F⟩
theorem f_Encoder_code_even (c : He.SaysD fa fn K) : ∃ fd, Fun K "code_even" "Encoder.code_even" sEeven (He.ma K (He.ga K "Encoder") "code_even") fd := by
  obtain ⟨fd, F⟩ := c.def_ 23 (d := dM "Encoder" "code_even" "Encoder.code_even" sEeven) rfl
  exact ⟨fd, toFun F⟩
theorem f_Encoder_octets (c : He.SaysD fa fn K) : ∃ fd, Fun K "octets" "Encoder.octets" sEocts (He.ma K (He.ga K "Encoder") "octets") fd := by
  obtain ⟨fd, F⟩ := c.def_ 24 (d := dM "Encoder" "octets" "Encoder.octets" sEocts) rfl
  exact ⟨fd, toFun F⟩
theorem f_Decoder_init (c : He.SaysD fa fn K) : ∃ fd, Fun K "__init__" "Decoder.__init__" sDinit (He.ma K (He.ga K "Decoder") "__init__") fd := by
  obtain ⟨fd, F⟩ := c.def_ 25 (d := dM "Decoder" "__init__" "Decoder.__init__" sDinit) rfl
  exact ⟨fd, toFun F⟩
theorem f_Decoder_following (c : He.SaysD fa fn K) : ∃ fd, Fun K "following" "Decoder.following" sDfoll (He.ma K (He.ga K "Decoder") "following") fd := by
  obtain ⟨fd, F⟩ := c.def_ 26 (d := dM "Decoder" "following" "Decoder.following" sDfoll) rfl
  exact ⟨fd, toFun F⟩
theorem f_Decoder_step (c : He.SaysD fa fn K) : ∃ fd, Fun K "step" "Decoder.step" sDstep (He.ma K (He.ga K "Decoder") "step") fd := by
  obtain ⟨fd, F⟩ := c.def_ 27 (d := dM "Decoder" "step" "Decoder.step" sDstep) rfl
  exact ⟨fd, toFun F⟩
theorem f_Decoder_read (c : He.SaysD fa fn K) : ∃ fd, Fun K "read" "Decoder.read" sDread (He.ma K (He.ga K "Decoder") "read") fd := by
  obtain ⟨fd, F⟩ := c.def_ 28 (d := dM "Decoder" "read" "Decoder.read" sDread) rfl
  exact ⟨fd, toFun F⟩
theorem f_Decoder_read_even (c : He.SaysD fa fn K) : ∃ fd, Fun K "read_even" "Decoder.read_even" sDeven (He.ma K (He.ga K "Decoder") "read_even") fd := by
  obtain ⟨fd, F⟩ := c.def_ 29 (d := dM "Decoder" "read_even" "Decoder.read_even" sDeven) rfl
  exact ⟨fd, toFun F⟩
theorem f_law_draws (c : He.SaysD fa fn K) : ∃ fd, Fun K "_law_draws" "_law_draws" sDraws (He.ga K "_law_draws") fd := by
  obtain ⟨fd, F⟩ := c.def_ 30 (d := dG "_law_draws" sDraws) rfl
  exact ⟨fd, toFun F⟩
theorem f_law_symbol (c : He.SaysD fa fn K) : ∃ fd, Fun K "_law_symbol" "_law_symbol" sSym (He.ga K "_law_symbol") fd := by
  obtain ⟨fd, F⟩ := c.def_ 31 (d := dG "_law_symbol" sSym) rfl
  exact ⟨fd, toFun F⟩
theorem f_law_put (c : He.SaysD fa fn K) : ∃ fd, Fun K "_law_put" "_law_put" sPut (He.ga K "_law_put") fd := by
  obtain ⟨fd, F⟩ := c.def_ 32 (d := dG "_law_put" sPut) rfl
  exact ⟨fd, toFun F⟩
theorem f_law_get (c : He.SaysD fa fn K) : ∃ fd, Fun K "_law_get" "_law_get" sGet (He.ga K "_law_get") fd := by
  obtain ⟨fd, F⟩ := c.def_ 33 (d := dG "_law_get" sGet) rfl
  exact ⟨fd, toFun F⟩
theorem f_law (c : He.SaysD fa fn K) : ∃ fd, Fun K "law" "law" sLaw (He.ga K "law") fd := by
  obtain ⟨fd, F⟩ := c.def_ 34 (d := dG "law" sLaw) rfl
  exact ⟨fd, toFun F⟩
end
/-! ### all of them, over any base -/
theorem facts {P : Program} {w : World} {K : PySem.W.Frag} {h : Heap} {mg : Str → Option Value} {f : Addr} (X : K.In h) (G : h.Ns mainGlobals mg) (hfa : mg ("law" : Str) = some (.ref f)) (c : He.SaysD fa fn K) :
    ∃ fd : FuncData, (∀ (s : Shared) (v : Value), BindsTo s fd ⟨[v], []⟩ [("_law_script", v)]) ∧ ∀ base : Heap, K.In base → base.Ns mainGlobals mg → FnOk P w K mg base CX0 8 f fd ["_law_script"] (spLaw K) := by
  have T := txt X G c
  obtain ⟨d_f_check_contexts, F_f_check_contexts⟩ := f_check_contexts c
  obtain ⟨d_f_check_choice, F_f_check_choice⟩ := f_check_choice c
  obtain ⟨d_f_check_unary, F_f_check_unary⟩ := f_check_unary c
  obtain ⟨d_f_SymbolWriter_init, F_f_SymbolWriter_init⟩ := f_SymbolWriter_init c
  obtain ⟨d_f_SymbolWriter_even, F_f_SymbolWriter_even⟩ := f_SymbolWriter_even c
  obtain ⟨d_f_SymbolWriter_flag, F_f_SymbolWriter_flag⟩ := f_SymbolWriter_flag c
  obtain ⟨d_f_SymbolWriter_choice, F_f_SymbolWriter_choice⟩ := f_SymbolWriter_choice c
  obtain ⟨d_f_SymbolWriter_unary, F_f_SymbolWriter_unary⟩ := f_SymbolWriter_unary c
  obtain ⟨d_f_SymbolWriter_number, F_f_SymbolWriter_number⟩ := f_SymbolWriter_number c
  obtain ⟨d_f_SymbolWriter_signed, F_f_SymbolWriter_signed⟩ := f_SymbolWriter_signed c
  obtain ⟨d_f_SymbolReader_init, F_f_SymbolReader_init⟩ := f_SymbolReader_init c
  obtain ⟨d_f_SymbolReader_even, F_f_SymbolReader_even⟩ := f_SymbolReader_even c
  obtain ⟨d_f_SymbolReader_flag, F_f_SymbolReader_flag⟩ := f_SymbolReader_flag c
  obtain ⟨d_f_SymbolReader_choice, F_f_SymbolReader_choice⟩ := f_SymbolReader_choice c
  obtain ⟨d_f_SymbolReader_unary, F_f_SymbolReader_unary⟩ := f_SymbolReader_unary c
  obtain ⟨d_f_SymbolReader_number, F_f_SymbolReader_number⟩ := f_SymbolReader_number c
  obtain ⟨d_f_SymbolReader_signed, F_f_SymbolReader_signed⟩ := f_SymbolReader_signed c
  obtain ⟨d_f_adapted, F_f_adapted⟩ := f_adapted c
  obtain ⟨d_f_check_context, F_f_check_context⟩ := f_check_context c
  obtain ⟨d_f_check_decision, F_f_check_decision⟩ := f_check_decision c
  obtain ⟨d_f_Encoder_init, F_f_Encoder_init⟩ := f_Encoder_init c
  obtain ⟨d_f_Encoder_step, F_f_Encoder_step⟩ := f_Encoder_step c
  obtain ⟨d_f_Encoder_code, F_f_Encoder_code⟩ := f_Encoder_code c
  obtain ⟨d_f_Encoder_code_even, F_f_Encoder_code_even⟩ := f_Encoder_code_even c
  obtain ⟨d_f_Encoder_octets, F_f_Encoder_octets⟩ := f_Encoder_octets c
  obtain ⟨d_f_Decoder_init, F_f_Decoder_init⟩ := f_Decoder_init c
  obtain ⟨d_f_Decoder_following, F_f_Decoder_following⟩ := f_Decoder_following c
  obtain ⟨d_f_Decoder_step, F_f_Decoder_step⟩ := f_Decoder_step c
  obtain ⟨d_f_Decoder_read, F_f_Decoder_read⟩ := f_Decoder_read c
  obtain ⟨d_f_Decoder_read_even, F_f_Decoder_read_even⟩ := f_Decoder_read_even c
  obtain ⟨d_f_law_draws, F_f_law_draws⟩ := f_law_draws c
  obtain ⟨d_f_law_symbol, F_f_law_symbol⟩ := f_law_symbol c
  obtain ⟨d_f_law_put, F_f_law_put⟩ := f_law_put c
  obtain ⟨d_f_law_get, F_f_law_get⟩ := f_law_get c
  obtain ⟨d_f_law, F_f_law⟩ := f_law c
  have e := hfa.symm.trans (He.glo_ok X G (c.fact 14 (f := .glo "law") rfl))
  cases e
  have hbind : ∀ (s : Shared) (v : Value), BindsTo s d_f_law ⟨[v], []⟩ [("_law_script", v)] := fun s v => by
    obtain ⟨oc, od, kV, doc, pm, an, cdv, ct, osl, rfl, lk, hc⟩ := F_f_law.ex
    exact .of_eq rfl
  refine ⟨d_f_law, hbind, fun base _ _ => ?_⟩
  have b_f_check_contexts := F_f_check_contexts.binds (ps := ["base", "count"]) fun _ _ _ _ _ _ us hl => match us, hl with | [_, _], _ => rfl
  have b_f_check_choice := F_f_check_choice.binds (ps := ["base", "count"]) fun _ _ _ _ _ _ us hl => match us, hl with | [_, _], _ => rfl
  have b_f_check_unary := F_f_check_unary.binds (ps := ["base", "most"]) fun _ _ _ _ _ _ us hl => match us, hl with | [_, _], _ => rfl
  have b_f_SymbolWriter_init := F_f_SymbolWriter_init.binds (ps := ["self", "encoder"]) fun _ _ _ _ _ _ us hl => match us, hl with | [_, _], _ => rfl
  have b_f_SymbolWriter_even := F_f_SymbolWriter_even.binds (ps := ["self", "decision"]) fun _ _ _ _ _ _ us hl => match us, hl with | [_, _], _ => rfl
  have b_f_SymbolWriter_flag := F_f_SymbolWriter_flag.binds (ps := ["self", "base", "value"]) fun _ _ _ _ _ _ us hl => match us, hl with | [_, _, _], _ => rfl
  have b_f_SymbolWriter_choice := kbn_of (n := 3) (ks := ["count"]) (ps := ["self", "base", "value", "count"]) F_f_SymbolWriter_choice fun _ _ _ _ _ _ us ws l1 l2 => match us, l1, ws, l2 with | [_, _, _], _, [_], _ => rfl
  have b_f_SymbolWriter_unary := kbn_of (n := 3) (ks := ["most"]) (ps := ["self", "base", "value", "most"]) F_f_SymbolWriter_unary fun _ _ _ _ _ _ us ws l1 l2 => match us, l1, ws, l2 with | [_, _, _], _, [_], _ => rfl
  have b_f_SymbolWriter_number := F_f_SymbolWriter_number.binds (ps := ["self", "base", "value"]) fun _ _ _ _ _ _ us hl => match us, hl with | [_, _, _], _ => rfl
  have b_f_SymbolWriter_signed := F_f_SymbolWriter_signed.binds (ps := ["self", "base", "value"]) fun _ _ _ _ _ _ us hl => match us, hl with | [_, _, _], _ => rfl
  have b_f_SymbolReader_init := F_f_SymbolReader_init.binds (ps := ["self", "decoder"]) fun _ _ _ _ _ _ us hl => match us, hl with | [_, _], _ => rfl
  have b_f_SymbolReader_even := F_f_SymbolReader_even.binds (ps := ["self"]) fun _ _ _ _ _ _ us hl => match us, hl with | [_], _ => rfl
  have b_f_SymbolReader_flag := F_f_SymbolReader_flag.binds (ps := ["self", "base"]) fun _ _ _ _ _ _ us hl => match us, hl with | [_, _], _ => rfl
  have b_f_SymbolReader_choice := kbn_of (n := 2) (ks := ["count"]) (ps := ["self", "base", "count"]) F_f_SymbolReader_choice fun _ _ _ _ _ _ us ws l1 l2 => match us, l1, ws, l2 with | [_, _], _, [_], _ => rfl
  have b_f_SymbolReader_unary := kbn_of (n := 2) (ks := ["most"]) (ps := ["self", "base", "most"]) F_f_SymbolReader_unary fun _ _ _ _ _ _ us ws l1 l2 => match us, l1, ws, l2 with | [_, _], _, [_], _ => rfl
  have b_f_SymbolReader_number := F_f_SymbolReader_number.binds (ps := ["self", "base"]) fun _ _ _ _ _ _ us hl => match us, hl with | [_, _], _ => rfl
  have b_f_SymbolReader_signed := F_f_SymbolReader_signed.binds (ps := ["self", "base"]) fun _ _ _ _ _ _ us hl => match us, hl with | [_, _], _ => rfl
  have b_f_adapted := F_f_adapted.binds (ps := ["probability", "decision"]) fun _ _ _ _ _ _ us hl => match us, hl with | [_, _], _ => rfl
  have b_f_check_context := F_f_check_context.binds (ps := ["context"]) fun _ _ _ _ _ _ us hl => match us, hl with | [_], _ => rfl
  have b_f_check_decision := F_f_check_decision.binds (ps := ["decision"]) fun _ _ _ _ _ _ us hl => match us, hl with | [_], _ => rfl
  have b_f_Encoder_init := F_f_Encoder_init.binds (ps := ["self"]) fun _ _ _ _ _ _ us hl => match us, hl with | [_], _ => rfl
  have b_f_Encoder_step := F_f_Encoder_step.binds (ps := ["self", "probability", "decision"]) fun _ _ _ _ _ _ us hl => match us, hl with | [_, _, _], _ => rfl
  have b_f_Encoder_code := F_f_Encoder_code.binds (ps := ["self", "context", "decision"]) fun _ _ _ _ _ _ us hl => match us, hl with | [_, _, _], _ => rfl
  have b_f_Encoder_code_even := F_f_Encoder_code_even.binds (ps := ["self", "decision"]) fun _ _ _ _ _ _ us hl => match us, hl with | [_, _], _ => rfl
  have b_f_Encoder_octets := F_f_Encoder_octets.binds (ps := ["self"]) fun _ _ _ _ _ _ us hl => match us, hl with | [_], _ => rfl
  have b_f_Decoder_init := F_f_Decoder_init.binds (ps := ["self", "octets"]) fun _ _ _ _ _ _ us hl => match us, hl with | [_, _], _ => rfl
  have b_f_Decoder_following := F_f_Decoder_following.binds (ps := ["self"]) fun _ _ _ _ _ _ us hl => match us, hl with | [_], _ => rfl
  have b_f_Decoder_step := F_f_Decoder_step.binds (ps := ["self", "probability"]) fun _ _ _ _ _ _ us hl => match us, hl with | [_, _], _ => rfl
  have b_f_Decoder_read := F_f_Decoder_read.binds (ps := ["self", "context"]) fun _ _ _ _ _ _ us hl => match us, hl with | [_, _], _ => rfl
  have b_f_Decoder_read_even := F_f_Decoder_read_even.binds (ps := ["self"]) fun _ _ _ _ _ _ us hl => match us, hl with | [_], _ => rfl
  have b_f_law_draws := F_f_law_draws.binds (ps := ["_law_cell_here", "_law_limits"]) fun _ _ _ _ _ _ us hl => match us, hl with | [_, _], _ => rfl
  have b_f_law_symbol := F_f_law_symbol.binds (ps := ["_law_cell_here"]) fun _ _ _ _ _ _ us hl => match us, hl with | [_], _ => rfl
  have b_f_law_put := F_f_law_put.binds (ps := ["_law_writer", "_law_symbol_here"]) fun _ _ _ _ _ _ us hl => match us, hl with | [_, _], _ => rfl
  have b_f_law_get := F_f_law_get.binds (ps := ["_law_reader", "_law_symbol_here"]) fun _ _ _ _ _ _ us hl => match us, hl with | [_, _], _ => rfl
  have cAd : C8.Cal P w K mg base 1 "adapted" spAda [] := ⟨_, _, _, [], okAda F_f_adapted, He.glo_ok X G (c.fact 5 (f := .glo "adapted") rfl), F_f_adapted.kp, b_f_adapted, .nil⟩
  have cCx : C8.Cal P w K mg base 1 "check_context" spCcx [] := ⟨_, _, _, [], okCcx F_f_check_context T, He.glo_ok X G (c.fact 6 (f := .glo "check_context") rfl), F_f_check_context.kp, b_f_check_context, .nil⟩
  have cDc : C8.Cal P w K mg base 1 "check_decision" spCde [] := ⟨_, _, _, [], okCde F_f_check_decision T, He.glo_ok X G (c.fact 7 (f := .glo "check_decision") rfl), F_f_check_decision.kp, b_f_check_decision, .nil⟩
  have mEst : C8.Met P w K mg base 1 (cE K) "step" (spEstep K) [] := ⟨_, _, _, [], T.clE, He.meth_ok (c.fact 57 (f := .meth "Encoder" "step") rfl), okEstep F_f_Encoder_step T, b_f_Encoder_step, .nil⟩
  have mEco : C8.Met P w K mg base 2 (cE K) "code" (spEcode K) [] := ⟨_, _, _, [], T.clE, He.meth_ok (c.fact 58 (f := .meth "Encoder" "code") rfl), okEcode F_f_Encoder_code T cCx cDc cAd mEst, b_f_Encoder_code, .nil⟩
  have mEev : C8.Met P w K mg base 2 (cE K) "code_even" (spEeven K) [] := ⟨_, _, _, [], T.clE, He.meth_ok (c.fact 59 (f := .meth "Encoder" "code_even") rfl), okEeven F_f_Encoder_code_even T cDc mEst, b_f_Encoder_code_even, .nil⟩
  have mEoc : C8.Met P w K mg base 1 (cE K) "octets" (spEocts K) [] := ⟨_, _, _, [], T.clE, He.meth_ok (c.fact 60 (f := .meth "Encoder" "octets") rfl), okEocts F_f_Encoder_octets T, b_f_Encoder_octets, .nil⟩
  have mDfo : C8.Met P w K mg base 1 (cD K) "following" (spFoll K) [] := ⟨_, _, _, [], T.clD, He.meth_ok (c.fact 61 (f := .meth "Decoder" "following") rfl), okFoll F_f_Decoder_following T, b_f_Decoder_following, .nil⟩
  have mDst : C8.Met P w K mg base 2 (cD K) "step" (spDstep K) [] := ⟨_, _, _, [], T.clD, He.meth_ok (c.fact 62 (f := .meth "Decoder" "step") rfl), okDstep F_f_Decoder_step T mDfo, b_f_Decoder_step, .nil⟩
  have mDre : C8.Met P w K mg base 3 (cD K) "read" (spDread K) [] := ⟨_, _, _, [], T.clD, He.meth_ok (c.fact 63 (f := .meth "Decoder" "read") rfl), okDread F_f_Decoder_read T cCx cAd mDst, b_f_Decoder_read, .nil⟩
  have mDev : C8.Met P w K mg base 3 (cD K) "read_even" (spDeven K) [] := ⟨_, _, _, [], T.clD, He.meth_ok (c.fact 64 (f := .meth "Decoder" "read_even") rfl), okDeven F_f_Decoder_read_even T mDst, b_f_Decoder_read_even, .nil⟩
  have cXs : C8.Cal P w K mg base 1 "check_contexts" spCxs [] := ⟨_, _, _, [], okCxs F_f_check_contexts, He.glo_ok X G (c.fact 0 (f := .glo "check_contexts") rfl), F_f_check_contexts.kp, b_f_check_contexts, .nil⟩
  have cCh : C8.Cal P w K mg base 2 "check_choice" spCch [] := ⟨_, _, _, [], okCch F_f_check_choice cXs, He.glo_ok X G (c.fact 1 (f := .glo "check_choice") rfl), F_f_check_choice.kp, b_f_check_choice, .nil⟩
  have cUn : C8.Cal P w K mg base 2 "check_unary" spCun [] := ⟨_, _, _, [], okCun F_f_check_unary T cXs, He.glo_ok X G (c.fact 2 (f := .glo "check_unary") rfl), F_f_check_unary.kp, b_f_check_unary, .nil⟩
  have wEv : C8.Met P w K mg base 3 (cW K) "even" (spWeven K) [] := ⟨_, _, _, [], T.clW, He.meth_ok (c.fact 45 (f := .meth "SymbolWriter" "even") rfl), okWeven F_f_SymbolWriter_even T mEev, b_f_SymbolWriter_even, .nil⟩
  have wFl : C8.Met P w K mg base 3 (cW K) "flag" (spWflag K) [] := ⟨_, _, _, [], T.clW, He.meth_ok (c.fact 46 (f := .meth "SymbolWriter" "flag") rfl), okWflag F_f_SymbolWriter_flag T cXs mEco, b_f_SymbolWriter_flag, .nil⟩
  have wCh : MetN P w K mg base 3 (cW K) "choice" (spWchoice K) 3 ["count"] := ⟨_, _, _, T.clW, He.meth_ok (c.fact 47 (f := .meth "SymbolWriter" "choice") rfl), okWchoice F_f_SymbolWriter_choice T cCh mEco, b_f_SymbolWriter_choice⟩
  have wUn : MetN P w K mg base 3 (cW K) "unary" (spWunary K) 3 ["most"] := ⟨_, _, _, T.clW, He.meth_ok (c.fact 48 (f := .meth "SymbolWriter" "unary") rfl), okWunary F_f_SymbolWriter_unary T cUn mEco, b_f_SymbolWriter_unary⟩
  have wNu : C8.Met P w K mg base 4 (cW K) "number" (spWnumber K) [] := ⟨_, _, _, [], T.clW, He.meth_ok (c.fact 49 (f := .meth "SymbolWriter" "number") rfl), okWnumber F_f_SymbolWriter_number T cXs wUn mEco mEev, b_f_SymbolWriter_number, .nil⟩
  have wSi : C8.Met P w K mg base 5 (cW K) "signed" (spWsigned K) [] := ⟨_, _, _, [], T.clW, He.meth_ok (c.fact 50 (f := .meth "SymbolWriter" "signed") rfl), okWsigned F_f_SymbolWriter_signed T wNu mEev, b_f_SymbolWriter_signed, .nil⟩
  have rEv : C8.Met P w K mg base 4 (cR K) "even" (spReven K) [] := ⟨_, _, _, [], T.clR, He.meth_ok (c.fact 51 (f := .meth "SymbolReader" "even") rfl), okReven F_f_SymbolReader_even T mDev, b_f_SymbolReader_even, .nil⟩
  have rFl : C8.Met P w K mg base 4 (cR K) "flag" (spRflag K) [] := ⟨_, _, _, [], T.clR, He.meth_ok (c.fact 52 (f := .meth "SymbolReader" "flag") rfl), okRflag F_f_SymbolReader_flag T cXs mDre, b_f_SymbolReader_flag, .nil⟩
  have rCh : MetN P w K mg base 4 (cR K) "choice" (spRchoice K) 2 ["count"] := ⟨_, _, _, T.clR, He.meth_ok (c.fact 53 (f := .meth "SymbolReader" "choice") rfl), okRchoice F_f_SymbolReader_choice T cCh mDre, b_f_SymbolReader_choice⟩
  have rUn : MetN P w K mg base 4 (cR K) "unary" (spRunary K) 2 ["most"] := ⟨_, _, _, T.clR, He.meth_ok (c.fact 54 (f := .meth "SymbolReader" "unary") rfl), okRunary F_f_SymbolReader_unary T cUn mDre, b_f_SymbolReader_unary⟩
  have rNu : C8.Met P w K mg base 5 (cR K) "number" (spRnumber K) [] := ⟨_, _, _, [], T.clR, He.meth_ok (c.fact 55 (f := .meth "SymbolReader" "number") rfl), okRnumber F_f_SymbolReader_number T cXs rUn mDre mDev, b_f_SymbolReader_number, .nil⟩
  have rSi : C8.Met P w K mg base 6 (cR K) "signed" (spRsigned K) [] := ⟨_, _, _, [], T.clR, He.meth_ok (c.fact 56 (f := .meth "SymbolReader" "signed") rfl), okRsigned F_f_SymbolReader_signed T rNu mDev, b_f_SymbolReader_signed, .nil⟩
  have cDr : C8.Cal P w K mg base 1 "_law_draws" spDraws [] := ⟨_, _, _, [], okDraws F_f_law_draws T, He.glo_ok X G (c.fact 10 (f := .glo "_law_draws") rfl), F_f_law_draws.kp, b_f_law_draws, .nil⟩
  have cSy : C8.Cal P w K mg base 2 "_law_symbol" spSym [] := ⟨_, _, _, [], okSym F_f_law_symbol T cDr, He.glo_ok X G (c.fact 11 (f := .glo "_law_symbol") rfl), F_f_law_symbol.kp, b_f_law_symbol, .nil⟩
  have cPu : C8.Cal P w K mg base 6 "_law_put" (spPut K) [] := ⟨_, _, _, [], okPut F_f_law_put T ⟨wEv, wFl, wCh, wUn, wNu, wSi⟩, He.glo_ok X G (c.fact 12 (f := .glo "_law_put") rfl), F_f_law_put.kp, b_f_law_put, .nil⟩
  have cGe : C8.Cal P w K mg base 7 "_law_get" (spGet K) [] := ⟨_, _, _, [], okGet F_f_law_get T ⟨rEv, rFl, rCh, rUn, rNu, rSi⟩, He.glo_ok X G (c.fact 13 (f := .glo "_law_get") rfl), F_f_law_get.kp, b_f_law_get, .nil⟩
  have cWr : C8.Mak P w K mg base 1 "SymbolWriter" (cW K) (spWinit K) [] := ⟨_, _, _, [], He.mkr_ok (c.fact 65 (f := .mkr "SymbolWriter") rfl), okWinit F_f_SymbolWriter_init T, He.glo_ok X G (c.fact 3 (f := .glo "SymbolWriter") rfl), b_f_SymbolWriter_init, .nil⟩
  have cRe : C8.Mak P w K mg base 1 "SymbolReader" (cR K) (spRinit K) [] := ⟨_, _, _, [], He.mkr_ok (c.fact 66 (f := .mkr "SymbolReader") rfl), okRinit F_f_SymbolReader_init T, He.glo_ok X G (c.fact 4 (f := .glo "SymbolReader") rfl), b_f_SymbolReader_init, .nil⟩
  have cDe : C8.Mak P w K mg base 2 "Decoder" (cD K) (spDinit K) [] := ⟨_, _, _, [], He.mkr_ok (c.fact 68 (f := .mkr "Decoder") rfl), okDinit F_f_Decoder_init T mDfo, He.glo_ok X G (c.fact 9 (f := .glo "Decoder") rfl), b_f_Decoder_init, .nil⟩
  exact okLaw F_f_law T cSy cPu cGe (He.mkr_ok (c.fact 67 (f := .mkr "Encoder") rfl)) (He.glo_ok X G (c.fact 8 (f := .glo "Encoder") rfl)) (okEinit F_f_Encoder_init T) b_f_Encoder_init cWr cDe cRe mEoc
end Th
open PySem PySem.W PySem.Calls PyProof.Rows
set_option maxHeartbeats 0 in
theorem PySem.Challenge.cw_thaumatrope_k16_whole_symbols_read_back_holds : PySem.Challenge.rw_thaumatrope_k16_whole_symbols_read_back.Holds := by
  w_on; o_law
  refine HandSHeadRun.head_any (r := OpenLaw.row PySem.Challenge.rw_thaumatrope_k16_whole_symbols_read_back) (q := view (OpenLaw.row PySem.Challenge.rw_thaumatrope_k16_whole_symbols_read_back).prog [27]) (H := Th.hk) (ob := Th.ob) (M := 4000) (loose := Th.names) (d := HandSHeadRun.topDef (OpenLaw.row PySem.Challenge.rw_thaumatrope_k16_whole_symbols_read_back).prog 27) (kwd := []) Th.ob_eq
    (by kernel_rfl) (fun s => by kernel_rfl) Th.run (by kernel_rfl) (by kernel_rfl) (by kernel_rfl) (by rfl) (by first | assumption | decide +kernel) (by decide +kernel) ⟨rfl, rfl, rfl, rfl, rfl, by decide +kernel⟩ ?hw ?hc
  case hw => w_witness2
  case hc =>
    refine L2.walk_ofE (l := PySem.Challenge.rw_thaumatrope_k16_whole_symbols_read_back) (n := 63) (k := 8) (x := "_law_script") (CX := L2.CX0) rfl (by decide) (by kernel_rfl) ⟨rfl, by decide, by decide⟩ ?F (fun _ _ _ _ z => z)
    intro w mg fa h Y G hmg0
    obtain ⟨K, KX, c⟩ := Y
    have hmg : mg ("law" : PySem.Str) = some (.ref fa) := by
      have e : (HandSHeadRun.topDef (OpenLaw.row PySem.Challenge.rw_thaumatrope_k16_whole_symbols_read_back).prog 27).name = ("law" : PySem.Str) := by kernel_rfl
      rw [← e]
      exact hmg0
    obtain ⟨fd, hb, hF⟩ := Th.facts (P := (PySem.Challenge.rw_thaumatrope_k16_whole_symbols_read_back).prog) (w := w) KX G hmg c
    exact ⟨K, fd, Th.spLaw K, KX, hb, fun H a ns hl _ hS => ⟨a, ns, rfl, hS, hl, fun _ => rfl⟩, hF⟩
