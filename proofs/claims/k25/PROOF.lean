import PyProof.Rows.All
import PySem.SetTable
import PySem.SetOps
import PyProof.SetScanFacts
import HandS.Set
import HandS.SetFor
import Wide.All
import OpenK.AllK
import Wide.FinOn
import PyProof.EqAt
import PyProof.EqKinds
import PyProof.TupleCall
import HandS.ForMost
import HandS.ForExc
import HandS.Defaults
import HandS.MakeKwOnly
import HandS.WideBits
import HandS.IsInst
import HandS.Flow
import HandS.Style
import HandS.Evl
import HandS.StrMore
import HandS.TupAny
import HandS.SortInts
import HandS.RaiseMore
import HandS.Zip
import HandS.Head0
import HandS.Head1
import HandS.Head2
import HandS.HeadEnd
import HandS.HeadHook1
import HandS.HeadHook2
import HandS.Walk
import PyProof.Rows.StrJoinRep
import PyProof.StrLawsLast
import HandS.Codes
import HandS.ExcIs
import KE.KTryMore
import KE.KFmtOwn
import PyProof.InstSpecial
import HandS.TryOnly
import HandS.FStr
import HandS.Conv
import HandS.Strs
import HandS.OwnEq
import HandS.Deep
import HandS.RaiseFrom
import HandS.SuiteRaise
import HandS.Exc
import KE.GoesMore
import HandS.HotCalls
import HandS.ExcField
import HandS.More
import HandS.SetTxt0
import KE.KExcInit
import HandS.ExcInit
import HandS.ExcValue
import KE.KDictZip
import HandS.TupMul
import PySem.Challenge.RW_shortgoings_k25_texts_of_no_spread
set_option linter.all false
namespace L3
open PySem
def it5 : Nat → Nat → Nat
  | 0, x => x
  | n + 1, x => it5 n (5 * x + 1)
theorem it5_add : ∀ m n x, it5 (m + n) x = it5 n (it5 m x)
  | 0, n, x => by rw [Nat.zero_add]; rfl
  | m + 1, n, x => by
    rw [show m + 1 + n = (m + n) + 1 by omega]
    exact it5_add m n (5 * x + 1)
theorem it5_two : ∀ K, ∃ a b, ∀ x, it5 (2 ^ K) x = (1 + 4 * 2 ^ K * a) * x + 2 ^ K * (2 * b + 1)
  | 0 => ⟨1, 0, fun x => by show 5 * x + 1 = _; omega⟩
  | K + 1 => by
    obtain ⟨a, b, h⟩ := it5_two K
    refine ⟨a + 2 * 2 ^ K * a * a, b + 2 ^ K * a + 2 * b * 2 ^ K * a, fun x => ?_⟩
    rw [show 2 ^ (K + 1) = 2 ^ K + 2 ^ K by rw [Nat.pow_succ]; omega, it5_add, h, h]
    generalize 2 ^ K = p
    grind
theorem mod_two {p y z : Nat} (hz : z < p + p) (e : y % p = z % p) (c : y % (p + p) ≠ z) : (y + p) % (p + p) = z := by
  have p0 : 0 < p + p := by omega
  have d := Nat.div_add_mod y (p + p)
  have l := Nat.mod_lt y p0
  have e2 : y % (p + p) % p = y % p := Nat.mod_mod_of_dvd y ⟨2, by omega⟩
  generalize y % (p + p) = r at *
  generalize y / (p + p) = q at *
  have red : ∀ w, w < p + p → w % p = if w < p then w else w - p := fun w hw => by
    split
    · exact Nat.mod_eq_of_lt (by assumption)
    · rw [Nat.mod_eq_sub_mod (by omega)]
      exact Nat.mod_eq_of_lt (by omega)
  rw [← e2, red r l, red z hz] at e
  by_cases g : r < p
  · rw [if_pos g] at e
    have ez : z = r + p := by split at e <;> omega
    rw [← d, ez, show (p + p) * q + r + p = (r + p) + (p + p) * q by omega, Nat.add_mul_mod_self_left]
    exact Nat.mod_eq_of_lt (by omega)
  · rw [if_neg g] at e
    have ez : r = z + p := by split at e <;> omega
    rw [← d, ez, show (p + p) * q + (z + p) + p = z + (p + p) * (q + 1) by rw [Nat.mul_add]; omega, Nat.add_mul_mod_self_left]
    exact Nat.mod_eq_of_lt hz
theorem it5_all : ∀ K x z, z < 2 ^ K → ∃ n, n < 2 ^ K ∧ it5 n x % 2 ^ K = z
  | 0, x, z, h => ⟨0, by decide, by rw [Nat.pow_zero, Nat.mod_one]; omega⟩
  | K + 1, x, z, h => by
    have p0 : 0 < 2 ^ K := Nat.two_pow_pos K
    have e2 : 2 ^ (K + 1) = 2 ^ K + 2 ^ K := by rw [Nat.pow_succ]; omega
    obtain ⟨n, hn, e⟩ := it5_all K x (z % 2 ^ K) (Nat.mod_lt _ p0)
    by_cases c : it5 n x % 2 ^ (K + 1) = z
    · exact ⟨n, by omega, c⟩
    · refine ⟨n + 2 ^ K, by omega, ?_⟩
      obtain ⟨a, b, hf⟩ := it5_two K
      have hf := hf (it5 n x)
      rw [it5_add, hf]
      generalize it5 n x = y at e c
      rw [e2] at c h ⊢
      generalize 2 ^ K = p at *
      have e3 : (1 + 4 * p * a) * y + p * (2 * b + 1) = (y + p) + (p + p) * (2 * a * y + b) := by grind
      rw [e3, Nat.add_mul_mod_self_left]
      exact mod_two h e c
/-- the rest of `it5` -/
theorem it5_mod {m : Nat} : ∀ n x y, x % m = y % m → it5 n x % m = it5 n y % m
  | 0, x, y, e => e
  | n + 1, x, y, e => it5_mod n _ _ (by rw [Nat.add_mod, Nat.mul_mod, e, ← Nat.mul_mod, ← Nat.add_mod])
abbrev PB := SetTable.Probe
/-- the n-th stand -/
def nth (t : SetTable) : Nat → PB → PB
  | 0, p => p
  | n + 1, p => nth t n (t.advance p)
theorem nth_add (t : SetTable) : ∀ m n p, nth t (m + n) p = nth t n (nth t m p)
  | 0, n, p => by rw [Nat.zero_add]; rfl
  | m + 1, n, p => by
    rw [show m + 1 + n = (m + n) + 1 by omega]
    exact nth_add t m n _
/-- a run's first stand -/
def runAt (t : SetTable) (i u : Nat) : PB := { j := i, more := SetTable.runEnd t.mask i - i, i, perturb := u, dummy := none }
theorem nth_run (t : SetTable) (i u : Nat) : ∀ (k j : Nat), nth t (k + 1) { j := j, more := k, i, perturb := u, dummy := none } = runAt t ((i * 5 + 1 + u / 32) % (t.mask + 1)) (u / 32)
  | 0, j => rfl
  | k + 1, j => by
    show nth t (k + 1) (t.advance _) = _
    rw [show t.advance { j := j, more := k + 1, i, perturb := u, dummy := none } = { j := j + 1, more := k, i, perturb := u, dummy := none } from by
      unfold SetTable.advance
      rw [if_pos (show (k + 1) > 0 by omega)]
      rfl]
    exact nth_run t i u k (j + 1)
theorem nth_leap (t : SetTable) (i u : Nat) : ∃ n, n ≤ 10 ∧ nth t n (runAt t i u) = runAt t ((i * 5 + 1 + u / 32) % (t.mask + 1)) (u / 32) := by
  refine ⟨SetTable.runEnd t.mask i - i + 1, ?_, nth_run t i u _ i⟩
  unfold SetTable.runEnd
  split <;> omega
def leaps (t : SetTable) : Nat → Nat × Nat → Nat × Nat
  | 0, p => p
  | n + 1, p => leaps t n ((p.1 * 5 + 1 + p.2 / 32) % (t.mask + 1), p.2 / 32)
theorem nth_leaps (t : SetTable) : ∀ r i u, ∃ n, n ≤ 10 * r ∧ nth t n (runAt t i u) = runAt t (leaps t r (i, u)).1 (leaps t r (i, u)).2
  | 0, i, u => ⟨0, by omega, rfl⟩
  | r + 1, i, u => by
    obtain ⟨n, h1, h2⟩ := nth_leap t i u
    obtain ⟨m, h3, h4⟩ := nth_leaps t r ((i * 5 + 1 + u / 32) % (t.mask + 1)) (u / 32)
    refine ⟨n + m, by omega, ?_⟩
    rw [nth_add, h2, h4]
    rfl
theorem leaps_add (t : SetTable) : ∀ m n p, leaps t (m + n) p = leaps t n (leaps t m p)
  | 0, n, p => by rw [Nat.zero_add]; rfl
  | m + 1, n, p => by
    rw [show m + 1 + n = (m + n) + 1 by omega]
    exact leaps_add t m n _
theorem leaps_pert (t : SetTable) : ∀ r p, (leaps t r p).2 = p.2 / 32 ^ r
  | 0, p => by rw [Nat.pow_zero, Nat.div_one]; rfl
  | r + 1, p => by
    show (leaps t r _).2 = _
    rw [leaps_pert t r, Nat.div_div_eq_div_mul, Nat.pow_succ, Nat.mul_comm]
theorem leaps_zero (t : SetTable) : ∀ r i, i < t.mask + 1 → (leaps t r (i, 0)).1 = it5 r i % (t.mask + 1)
  | 0, i, h => (Nat.mod_eq_of_lt h).symm
  | r + 1, i, h => by
    show (leaps t r ((i * 5 + 1 + 0 / 32) % (t.mask + 1), 0 / 32)).1 = it5 r (5 * i + 1) % _
    rw [Nat.zero_div, leaps_zero t r _ (Nat.mod_lt _ (Nat.succ_pos _))]
    exact it5_mod r _ _ (by rw [Nat.mod_mod, Nat.mul_comm, Nat.add_zero])
/-- every slot is met -/
theorem all_met (t : SetTable) {K : Nat} (hK : t.mask + 1 = 2 ^ K) {i u z : Nat} (hu : u < 2 ^ 64) (hz : z ≤ t.mask) : ∃ n, n < 10 * SetTable.turns t.mask ∧ (nth t n (runAt t i u)).j = z := by
  have p13 : (leaps t 13 (i, u)).2 = 0 := by
    rw [leaps_pert]
    exact Nat.div_eq_of_lt (Nat.lt_of_lt_of_le hu (by decide))
  have l13 : (leaps t 13 (i, u)).1 < t.mask + 1 := by
    rw [show (13 : Nat) = 12 + 1 from rfl, leaps_add]
    exact Nat.mod_lt _ (Nat.succ_pos _)
  obtain ⟨m, hm, e⟩ := it5_all K (leaps t 13 (i, u)).1 z (by omega)
  obtain ⟨n, h1, h2⟩ := nth_leaps t (13 + m) i u
  refine ⟨n, by unfold SetTable.turns; omega, ?_⟩
  rw [h2]
  show (leaps t (13 + m) (i, u)).1 = z
  rw [leaps_add]
  generalize leaps t 13 (i, u) = q at *
  obtain ⟨q1, q2⟩ := q
  dsimp only at p13 l13 e
  subst p13
  rw [leaps_zero t m q1 l13, hK]
  exact e
end L3
set_option linter.all false
namespace L3
open PySem
theorem below_go (xs : Array Nat) (j : Nat) (srt : xs.toList.Pairwise (· < ·)) : ∀ (fuel lo hi : Nat), lo ≤ hi → hi ≤ xs.size → hi - lo ≤ fuel → (∀ i x, xs[i]? = some x → i < lo → x < j) → (∀ i x, xs[i]? = some x → hi ≤ i → j ≤ x) →
    SetTable.below.go xs j fuel lo hi ≤ xs.size ∧ (∀ i x, xs[i]? = some x → i < SetTable.below.go xs j fuel lo hi → x < j) ∧ (∀ i x, xs[i]? = some x → SetTable.below.go xs j fuel lo hi ≤ i → j ≤ x)
  | 0, lo, hi, h1, h2, h3, a, b => by
    have e : lo = hi := by omega
    subst e
    exact ⟨h2, a, b⟩
  | fuel + 1, lo, hi, h1, h2, h3, a, b => by
    unfold SetTable.below.go
    have mono : ∀ i k x y, xs[i]? = some x → xs[k]? = some y → i ≤ k → x ≤ y := fun i k x y hx hy l => by
      rcases Nat.lt_or_eq_of_le l with l | l
      · have q := List.pairwise_iff_getElem.mp srt i k (by have := (Array.getElem?_eq_some_iff.mp hx).1; simpa using this) (by have := (Array.getElem?_eq_some_iff.mp hy).1; simpa using this) l
        have e1 := (Array.getElem?_eq_some_iff.mp hx).2
        have e2 := (Array.getElem?_eq_some_iff.mp hy).2
        simp only [Array.getElem_toList] at q
        omega
      · subst l
        rw [hx] at hy
        cases hy
        exact Nat.le_refl _
    by_cases c : lo < hi
    · rw [if_pos c]
      have ms : (lo + hi) / 2 < xs.size := by omega
      have hm : xs[(lo + hi) / 2]? = some xs[(lo + hi) / 2] := Array.getElem?_eq_getElem ms
      have hg : xs.getD ((lo + hi) / 2) j = xs[(lo + hi) / 2] := by rw [Array.getD_eq_getD_getElem?, hm]; rfl
      dsimp only
      rw [hg]
      by_cases d : xs[(lo + hi) / 2] < j
      · rw [if_pos d]
        refine below_go xs j srt fuel _ _ (by omega) h2 (by omega) (fun i x hx l => ?_) b
        have := mono i _ x _ hx hm (by omega)
        omega
      · rw [if_neg d]
        refine below_go xs j srt fuel _ _ (by omega) (by omega) (by omega) a (fun i x hx l => ?_)
        have := mono _ i _ x hm hx (by omega)
        omega
    · rw [if_neg c]
      have e : lo = hi := by omega
      subst e
      exact ⟨h2, a, b⟩
theorem below_spec (xs : Array Nat) (j : Nat) (srt : xs.toList.Pairwise (· < ·)) : SetTable.below xs j ≤ xs.size ∧ (∀ i x, xs[i]? = some x → i < SetTable.below xs j → x < j) ∧ (∀ i x, xs[i]? = some x → SetTable.below xs j ≤ i → j ≤ x) := by
  unfold SetTable.below
  exact below_go xs j srt xs.size 0 xs.size (Nat.zero_le _) (Nat.le_refl _) (by omega) (fun i x _ l => by omega) (fun i x hx l => by
    have := (Array.getElem?_eq_some_iff.mp hx).1
    omega)
theorem has_none (j : Nat) : SetTable.has #[] j = false := rfl
/-- a live slot -/
theorem slot_live {t : SetTable} (srt : t.place.toList.Pairwise (· < ·)) {i j : Nat} (h : t.place[i]? = some j) : t.slot j = .live i := by
  obtain ⟨b1, b2, b3⟩ := below_spec t.place j srt
  have e : SetTable.below t.place j = i := by
    have l1 : ¬ i < SetTable.below t.place j := fun l => Nat.lt_irrefl _ (b2 i j h l)
    by_cases l2 : SetTable.below t.place j < i
    · exfalso
      have hi := (Array.getElem?_eq_some_iff.mp h).1
      have hb : t.place[SetTable.below t.place j]? = some t.place[SetTable.below t.place j] := Array.getElem?_eq_getElem (by omega)
      have q := b3 _ _ hb (Nat.le_refl _)
      have r := List.pairwise_iff_getElem.mp srt _ i (by simp; omega) (by simpa using hi) l2
      have e2 := (Array.getElem?_eq_some_iff.mp h).2
      simp only [Array.getElem_toList] at r
      omega
    · omega
  unfold SetTable.slot
  dsimp only
  rw [e, h, if_pos (by simp)]
theorem slot_empty {t : SetTable} (d : t.dummies = #[]) {j : Nat} (h : j ∉ t.place.toList) : t.slot j = .empty := by
  unfold SetTable.slot
  dsimp only
  rw [if_neg, d, has_none]
  · rfl
  · intro e
    have e := eq_of_beq e
    exact h (List.mem_of_getElem? (by rw [Array.getElem?_toList]; exact e))
/-- where a probe ends -/
theorem probe_go {t : SetTable} (srt : t.place.toList.Pairwise (· < ·)) (d : t.dummies = #[]) (f : Nat → Int) (h : Int) : ∀ (n fuel : Nat) (p : PB), n < fuel → (nth t n p).j ∉ t.place.toList →
    (∃ m, m ≤ n ∧ (∀ k, k < m → ∃ i, t.place[i]? = some (nth t k p).j ∧ f i ≠ h) ∧
      ((∃ i, t.place[i]? = some (nth t m p).j ∧ f i = h ∧ SetTable.probe.go t f h fuel p = some (.candidate (nth t m p).j i (nth t (m + 1) p))) ∨
       ((nth t m p).j ∉ t.place.toList ∧ SetTable.probe.go t f h fuel p = some (.empty (nth t m p).j (nth t m p).dummy))))
  | n, 0, p, hn, _ => by omega
  | n, fuel + 1, p, hn, hj => by
    unfold SetTable.probe.go
    by_cases c : p.j ∈ t.place.toList
    · obtain ⟨i, hi⟩ := List.getElem?_of_mem c
      rw [Array.getElem?_toList] at hi
      rw [slot_live srt hi]
      dsimp only
      by_cases e : f i = h
      · rw [if_pos (by rw [e]; exact beq_self_eq_true h)]
        exact ⟨0, Nat.zero_le _, fun k hk => by omega, .inl ⟨i, hi, e, rfl⟩⟩
      · rw [if_neg (by intro q; exact e (eq_of_beq q))]
        cases n with
        | zero => exact absurd c hj
        | succ n =>
          obtain ⟨m, m1, m2, m3⟩ := probe_go srt d f h n fuel (t.advance p) (by omega) hj
          refine ⟨m + 1, by omega, fun k hk => ?_, m3⟩
          cases k with
          | zero => exact ⟨i, hi, e⟩
          | succ k => exact m2 k (by omega)
    · rw [slot_empty d c]
      exact ⟨0, Nat.zero_le _, fun k hk => by omega, .inr ⟨c, rfl⟩⟩
theorem nth_dummy (t : SetTable) : ∀ n p, (nth t n p).dummy = p.dummy
  | 0, p => rfl
  | n + 1, p => by
    show (nth t n _).dummy = _
    rw [nth_dummy t n]
    unfold SetTable.advance
    split <;> rfl
end L3
set_option linter.all false
namespace L3
open PySem
def tm (m : Nat) : SetTable := { mask := m, place := #[], dummies := #[], finger := 0, led := false, moves := 0, plain := true }
/-- the n-th slot for a hash -/
def cj (m : Nat) (h : Int) (n : Nat) : Nat := (nth (tm m) n ((tm m).probeStart h)).j
theorem nth_mask {t t' : SetTable} (e : t.mask = t'.mask) : ∀ n p, nth t n p = nth t' n p
  | 0, p => rfl
  | n + 1, p => by
    show nth t n (t.advance p) = nth t' n (t'.advance p)
    rw [show t.advance p = t'.advance p by unfold SetTable.advance; rw [e], nth_mask e n]
theorem start_mask {t t' : SetTable} (e : t.mask = t'.mask) (h : Int) : t.probeStart h = t'.probeStart h := by
  unfold SetTable.probeStart
  rw [e]
theorem cj_of (t : SetTable) (h : Int) (n : Nat) : (nth t n (t.probeStart h)).j = cj t.mask h n := by
  unfold cj
  rw [nth_mask (t := t) (t' := tm t.mask) rfl, start_mask (t := t) (t' := tm t.mask) rfl]
theorem bits_lt (h : Int) : SetTable.bits h < 2 ^ 64 := by
  unfold SetTable.bits
  have := Int.emod_lt_of_pos h (show (0 : Int) < 2 ^ 64 by decide)
  have := Int.emod_nonneg h (show (2 ^ 64 : Int) ≠ 0 by decide)
  omega
theorem cj_all {m K z : Nat} {h : Int} (hK : m + 1 = 2 ^ K) (hz : z ≤ m) : ∃ n, n < 10 * SetTable.turns m ∧ cj m h n = z := all_met (tm m) hK (i := SetTable.bits h % (m + 1)) (bits_lt h) hz
theorem runEnd_le {m i : Nat} (h : i ≤ m) : SetTable.runEnd m i ≤ m ∧ i ≤ SetTable.runEnd m i := by
  unfold SetTable.runEnd
  split <;> omega
theorem nth_le (t : SetTable) : ∀ n (p : PB), p.j + p.more ≤ t.mask → (nth t n p).j ≤ t.mask
  | 0, p, h => by show p.j ≤ _; omega
  | n + 1, p, h => by
    refine nth_le t n _ ?_
    unfold SetTable.advance
    split
    · dsimp only
      omega
    · dsimp only [SetTable.leap]
      have q := Nat.mod_lt (p.i * 5 + 1 + p.perturb / 32) (show 0 < t.mask + 1 by omega)
      obtain ⟨a, b⟩ := runEnd_le (m := t.mask) (i := (p.i * 5 + 1 + p.perturb / 32) % (t.mask + 1)) (by omega)
      omega
theorem cj_le (m : Nat) (h : Int) (n : Nat) : cj m h n ≤ m := by
  refine nth_le (tm m) n _ ?_
  show SetTable.bits h % (m + 1) + (SetTable.runEnd m (SetTable.bits h % (m + 1)) - SetTable.bits h % (m + 1)) ≤ m
  have q := Nat.mod_lt (SetTable.bits h) (show 0 < m + 1 by omega)
  obtain ⟨a, b⟩ := runEnd_le (m := m) (i := SetTable.bits h % (m + 1)) (by omega)
  omega
abbrev EL := List (Nat × (Int × Value))
structure Lay (t : SetTable) (L : EL) : Prop where
  K : ∃ K, t.mask + 1 = 2 ^ K
  dm : t.dummies = #[]
  pl : t.place.toList = L.map (·.1)
  srt : L.Pairwise fun a b => a.1 < b.1
  le : ∀ e ∈ L, e.1 ≤ t.mask
  rch : ∀ e ∈ L, ∃ n, cj t.mask e.2.1 n = e.1 ∧ ∀ k, k < n → cj t.mask e.2.1 k ∈ L.map (·.1)
theorem Lay.psrt {t : SetTable} {L : EL} (l : Lay t L) : t.place.toList.Pairwise (· < ·) := by
  rw [l.pl]
  exact List.pairwise_map.mpr l.srt
theorem Lay.at {t : SetTable} {L : EL} (l : Lay t L) {i j : Nat} (h : t.place[i]? = some j) : ∃ e, L[i]? = some e ∧ e.1 = j := by
  rw [← Array.getElem?_toList, l.pl, List.getElem?_map] at h
  cases he : L[i]? with
  | none => rw [he] at h; cases h
  | some e =>
    rw [he] at h
    exact ⟨e, rfl, Option.some.inj h⟩
theorem Lay.free {t : SetTable} {L : EL} (l : Lay t L) (few : L.length ≤ t.mask) : ∃ z, z ≤ t.mask ∧ z ∉ L.map (·.1) := by
  by_cases c : ∃ z, z ≤ t.mask ∧ z ∉ L.map (·.1)
  · exact c
  · exfalso
    have sub : List.range (t.mask + 1) ⊆ L.map (·.1) := fun z hz => by
      by_cases q : z ∈ L.map (·.1)
      · exact q
      · exact absurd ⟨z, by have := List.mem_range.mp hz; omega, q⟩ c
    have := List.Nodup.length_le_of_subset List.nodup_range sub
    rw [List.length_range, List.length_map] at this
    omega
/-- the search for a hash -/
theorem Lay.look {t : SetTable} {L : EL} (l : Lay t L) (few : L.length ≤ t.mask) (f : Nat → Int) (h : Int) :
    ∃ m, (∀ k, k < m → ∃ i, t.place[i]? = some (cj t.mask h k) ∧ f i ≠ h) ∧
      ((∃ i e nx, L[i]? = some e ∧ f i = h ∧ t.probe f h (t.probeStart h) = some (.candidate e.1 i nx)) ∨
       (cj t.mask h m ∉ L.map (·.1) ∧ t.probe f h (t.probeStart h) = some (.empty (cj t.mask h m) none))) := by
  obtain ⟨z, z1, z2⟩ := l.free few
  obtain ⟨K, hK⟩ := l.K
  obtain ⟨n, n1, n2⟩ := cj_all (h := h) hK z1
  have hj : (nth t n (t.probeStart h)).j ∉ t.place.toList := by
    rw [cj_of, n2, l.pl]
    exact z2
  obtain ⟨m, _, m2, m3⟩ := probe_go l.psrt l.dm f h n (10 * SetTable.turns t.mask) (t.probeStart h) n1 hj
  refine ⟨m, fun k hk => ?_, ?_⟩
  · obtain ⟨i, i1, i2⟩ := m2 k hk
    rw [cj_of] at i1
    exact ⟨i, i1, i2⟩
  · rcases m3 with ⟨i, i1, i2, i3⟩ | ⟨i1, i2⟩
    · obtain ⟨e, e1, e2⟩ := l.at i1
      refine .inl ⟨i, e, nth t (m + 1) (t.probeStart h), e1, i2, ?_⟩
      rw [e2]
      exact i3
    · rw [cj_of, l.pl] at i1
      rw [cj_of, nth_dummy] at i2
      exact .inr ⟨i1, i2⟩
end L3
set_option linter.all false
namespace L3
open PySem
def putL (L : EL) (p : Nat) (e : Nat × (Int × Value)) : EL := L.take p ++ e :: L.drop p
theorem putL_perm (L : EL) (p : Nat) (e : Nat × (Int × Value)) : (putL L p e).Perm (e :: L) := by
  unfold putL
  exact List.perm_middle.trans (by rw [List.take_append_drop])
theorem putL_mem {L : EL} {p : Nat} {e a : Nat × (Int × Value)} : a ∈ putL L p e ↔ a = e ∨ a ∈ L := by
  rw [(putL_perm L p e).mem_iff, List.mem_cons]
theorem Lay.put {t : SetTable} {L : EL} (l : Lay t L) {x : Int × Value} {n : Nat} (emp : cj t.mask x.1 n ∉ L.map (·.1)) (live : ∀ k, k < n → cj t.mask x.1 k ∈ L.map (·.1)) :
    Lay (t.put (cj t.mask x.1 n)).1 (putL L (t.put (cj t.mask x.1 n)).2 (cj t.mask x.1 n, x)) := by
  have hm : (t.put (cj t.mask x.1 n)).1.mask = t.mask := rfl
  have jl := cj_le t.mask x.1 n
  generalize hj : cj t.mask x.1 n = j at *
  have hp : (t.put j).2 = SetTable.below t.place j := rfl
  rw [hp]
  obtain ⟨b1, b2, b3⟩ := below_spec t.place j l.psrt
  have hpl : (t.put j).1.place = SetTable.insertAt t.place (SetTable.below t.place j) j := rfl
  generalize SetTable.below t.place j = p at *
  have at_ : ∀ i (a : Nat × (Int × Value)), L[i]? = some a → t.place[i]? = some a.1 := fun i a h => by
    rw [← Array.getElem?_toList, l.pl, List.getElem?_map, h]
    rfl
  have mm : ∀ z, z ∈ L.map (·.1) → z ∈ (putL L p (j, x)).map (·.1) := fun z hz => by
    obtain ⟨a, h1, h2⟩ := List.mem_map.mp hz
    exact List.mem_map.mpr ⟨a, putL_mem.mpr (.inr h1), h2⟩
  refine ⟨l.K, ?_, ?_, ?_, ?_, ?_⟩
  · show (if SetTable.has t.dummies j then _ else t.dummies) = #[]
    rw [l.dm, has_none]
    rfl
  · rw [hpl, SetTable.toList_insertAt, l.pl]
    unfold putL
    rw [List.map_append, List.map_cons, List.map_take, List.map_drop]
  · unfold putL
    have s := l.srt
    rw [← List.take_append_drop p L] at s
    obtain ⟨s1, s2, s3⟩ := List.pairwise_append.mp s
    refine List.pairwise_append.mpr ⟨s1, List.pairwise_cons.mpr ⟨fun a ha => ?_, s2⟩, fun a ha b hb => ?_⟩
    · obtain ⟨i, hi⟩ := List.getElem?_of_mem ha
      rw [List.getElem?_drop] at hi
      have q := b3 _ _ (at_ _ _ hi) (by omega)
      have ne : a.1 ≠ j := fun e => emp (by rw [← e]; exact List.mem_map_of_mem (List.mem_of_getElem? hi))
      show j < a.1
      omega
    · rcases List.mem_cons.mp hb with hb | hb
      · subst hb
        obtain ⟨i, hi⟩ := List.getElem?_of_mem ha
        have il : i < p := by
          have := (List.getElem?_eq_some_iff.mp hi).1
          rw [List.length_take] at this
          omega
        rw [List.getElem?_take_of_lt il] at hi
        exact b2 _ _ (at_ _ _ hi) il
      · exact s3 a ha b hb
  · intro a ha
    rw [hm]
    rcases putL_mem.mp ha with e | ha
    · subst e
      exact jl
    · exact l.le a ha
  · intro a ha
    rw [hm]
    rcases putL_mem.mp ha with e | ha
    · subst e
      exact ⟨n, hj, fun k hk => mm _ (live k hk)⟩
    · obtain ⟨n', n1, n2⟩ := l.rch a ha
      exact ⟨n', n1, fun k hk => mm _ (n2 k hk)⟩
end L3
set_option linter.all false
namespace L3
open PySem
end L3
set_option linter.all false
namespace L3
open PySem
end L3
set_option linter.all false
namespace L3
open PySem
end L3
set_option linter.all false
namespace L3
open PySem
end L3
set_option Elab.async false
set_option linter.all false
set_option maxRecDepth 100000
set_option maxHeartbeats 4000000
namespace L3
open PySem PySem.Spec PyProof.Rows L2
/-- the set of ints at a, its table laid -/
def SetB (w : World) (h : Heap) (a : Addr) (S : Int → Bool) (n : Nat) : Prop :=
  ∃ o es ep t L, h.get? a = some o ∧ o.ExactSet ∧ o.data = .set es ep t ∧ (∀ e ∈ es.toList, GoodE e) ∧ (es.toList.map keyOf).Nodup ∧ (∀ k, S k = true ↔ k ∈ es.toList.map keyOf) ∧
    Lay t L ∧ es.toList = L.map (·.2) ∧ L.length * 5 < t.mask * 3 ∧ L.length + 1 ≤ t.mask ∧ es.size = n ∧ (w.params.followText "set-order" = true ∨ t.led = true)
section
variable {P : Program} {w : World} {A : Around} {E : Value → Shared → Prop} {s : Shared} {h h' : Heap} {a : Addr} {S : Int → Bool} {n : Nat}
theorem SetB.at (R : SetB w h a S n) (k : ∀ o, h.get? a = some o → h'.get? a = some o) : SetB w h' a S n := by
  obtain ⟨o, es, ep, t, L, ho, r⟩ := R
  exact ⟨o, es, ep, t, L, k o ho, r⟩
end
end L3
set_option Elab.async false
set_option linter.all false
set_option maxRecDepth 100000
set_option maxHeartbeats 4000000
namespace L3
open PySem PySem.Spec PyProof.Rows L2
end L3
set_option Elab.async false
set_option linter.all false
set_option maxRecDepth 100000
set_option maxHeartbeats 4000000
namespace L3
open PySem PySem.Spec PyProof.Rows L2
end L3
set_option Elab.async false
set_option linter.all false
set_option maxRecDepth 100000
set_option maxHeartbeats 4000000
namespace L3
open PySem PySem.Spec PyProof.Rows L2
end L3
set_option Elab.async false
set_option linter.all false
set_option maxRecDepth 100000
set_option maxHeartbeats 4000000
namespace L3
open PySem PySem.Spec PyProof.Rows L2
end L3
set_option Elab.async false
set_option linter.all false
set_option maxRecDepth 100000
set_option maxHeartbeats 4000000
namespace L3
open PySem PySem.Spec PyProof.Rows L2
structure Rm (k : Nat) (A : Around) : Prop where
  rm : Room k A
  gd : A.guards = some []
theorem Rm.mono {j k : Nat} {A : Around} (r : Rm k A) (h : j ≤ k) : Rm j A := ⟨r.rm.mono h, r.gd⟩
theorem Rm.deeper {k : Nat} {A : Around} (r : Rm (k + 1) A) (env : Env) : Rm k (A.deeper env) := ⟨r.rm.deeper env, r.gd⟩
theorem make_guards {A : Around} {C : Addr} {us : List Value} {kw : List (Str × Value)} : (A.under (.builtin "type.__call__" ⟨.ref C :: us, kw⟩)).guards = A.guards := by
  have e : Code.guards (.builtin "type.__call__" ⟨.ref C :: us, kw⟩) = [] := by
    first | rfl | simp [Code.guards, Code.isGuard, guardIds]
  show pushGuards (Code.guards (.builtin "type.__call__" ⟨.ref C :: us, kw⟩)) A.guards = A.guards
  rw [e]
  cases A.guards <;> rfl
theorem Rm.make {k : Nat} {A : Around} (r : Rm (k + 1) A) (C : Addr) (us : List Value) (kw : List (Str × Value)) : Rm k (A.under (.builtin "type.__call__" ⟨.ref C :: us, kw⟩)) :=
  ⟨r.rm.make C us kw, make_guards.trans r.gd⟩
structure Fb (P : Program) (w : World) (K : PySem.W.Frag) (mg : Str → Option Value) (base : Heap) (k : Nat) (f : Addr) (fd : FuncData) (ps : List Str) (sp : Sp) : Prop where
  len : ∀ vs H Q E, sp vs H Q E → vs.length = ps.length
  run : ∀ (A : Around) (outer : List Env) (s : Shared) (H : Hp) (args : Args) (us : List Value) (vs : List V) (Q : VK) (E : XK), Rm k A → Env0 P w K mg base A outer s H → BindsTo s fd args (ps.zip us) → Vals vs us → sp vs H Q E →
    codeAny (model P w) A (.call (.ref f) args) (CR (L2.CX P w) outer P w H s Q E) s
section
variable {P : Program} {w : World} {K : PySem.W.Frag} {mg : Str → Option Value} {base : Heap} {x qual : Str} {params : Arguments} {body : List Stmt} {scope : Scope} {dvs : List V} {kws : List (Str × V)} {f : Addr} {fd : FuncData} {k : Nat} {ps N : List Str} {sp : Sp}
theorem fb_of (F : FunD K x qual params body scope dvs kws f fd) (S : FnScope N ps scope) (len : ∀ vs H Q E, sp vs H Q E → vs.length = ps.length)
    (hbody : ∀ (cdv : Value) (A : Around) (outer : List Env) (s : Shared) (H : Hp) (vs : List V) (Q : VK) (E : XK), Rm k (A.deeper (envOfC qual scope s.heap.objs.size f cdv)) → sp vs H Q E →
      ∃ t, PSs (cxOf (L2.CX P w) P w K mg base N qual scope f cdv A outer s H E) body t ∧ t { nx := fun _ H' => Q .non H', rt := Q } (start N vs) H) : Fb P w K mg base (k + 1) f fd ps sp := by
  obtain ⟨oc, od, dV, kV, doc, pm, an, cdv, ct, osl, rfl, lk, hcd, _, _⟩ := F.ex
  refine ⟨len, fun A outer s H args us vs Q E hr e0 hb r hsp => ?_⟩
  have hl := len _ _ _ _ hsp
  have KX : K.In s.heap := e0.mod.kin.keeps fun b o e => (e0.bs b o e).1
  have lim : s.heap.NoLimit := e0.mod.nolimit.keeps fun b o e => (e0.bs b o e).1
  have hkind : ∀ y ∈ ps.zip us, scope.names.lookup y.1 = some .local ∨ (scope.names.lookup y.1 = some .cell ∧ ((cellsFrom (s.heap.objs.size + 1) scope.names []).lookup y.1).isSome = true) := fun ⟨n, v⟩ hy => by
    rcases S.par n (List.of_mem_zip hy).1 with q | q
    · exact .inl q
    · exact .inr ⟨q, PySem.W.cellsFrom_some _ _ _ (.inl q)⟩
  refine codeAny_call_function hr.rm.depth (KX _ _ lk) rfl S.co S.gen rfl (PySem.W.codeRec_of KX hcd) (hb _ _ _ _ ?_)
  refine wpAny_newFunctionEnv_cells S.kind hkind fun env he s1 x => ?_
  subst he
  refine ⟨lim.keeps x.toInCall.keep, codeAny_func ?_⟩
  obtain ⟨t, ht, hq⟩ := hbody cdv A outer s H vs Q E (hr.deeper _) hsp
  have I : Inv (cxOf (L2.CX P w) P w K mg base N qual scope f cdv A outer s H E) [] (start N vs) H s1 := inv_start S hr.rm.hd e0 hl r x
  refine wpAny_mono (ht.run [] s1 (start N vs) H _ I hq) (fun fl s' hs => ?_) fun e s' hs => hs
  have fin : ∀ {σ' : L2.St} {H' : Hp} {v : V} {u : Value}, Inv (cxOf (L2.CX P w) P w K mg base N qual scope f cdv A outer s H E) [] σ' H' s' → RelV v u → Q v H' → CE outer P w H s Q u s' :=
    fun {σ' H' v u} J rv q => ⟨v, H', J.os, J.bare, J.base, J.hok, rv, q⟩
  cases fl with
  | ret u =>
    obtain ⟨v, σ', H', J, rv, q⟩ := hs
    exact fin J rv q
  | next =>
    obtain ⟨σ', H', J, q⟩ := hs
    exact fin (v := V.non) (u := Value.none) J rfl q
  | brk =>
    obtain ⟨_, _, _, q⟩ := hs
    exact False.elim q
  | cont =>
    obtain ⟨_, _, _, q⟩ := hs
    exact False.elim q
theorem Fb.mono {j : Nat} (F : Fb P w K mg base j f fd ps sp) (h : j ≤ k) : Fb P w K mg base k f fd ps sp := ⟨F.len, fun A outer s H args us vs Q E hr => F.run A outer s H args us vs Q E (hr.mono h)⟩
theorem Fb.imp {sp' : Sp} (F : Fb P w K mg base k f fd ps sp) (h : ∀ vs H Q E, sp' vs H Q E → sp vs H Q E) : Fb P w K mg base k f fd ps sp' :=
  ⟨fun vs H Q E q => F.len vs H Q E (h _ _ _ _ q), fun A outer s H args us vs Q E hr he hb hv hs => F.run A outer s H args us vs Q E hr he hb hv (h _ _ _ _ hs)⟩
def Fc (P : Program) (w : World) (K : PySem.W.Frag) (mg : Str → Option Value) (base : Heap) (k : Nat) (f : Addr) (ks : List Str) (sp : Sp) : Prop :=
  ∀ (A : Around) (outer : List Env) (s : Shared) (H : Hp) (us ws : List Value) (vs : List V) (Q : VK) (E : XK), Rm k A → Env0 P w K mg base A outer s H → Vals vs (us ++ ws) → ws.length = ks.length → sp vs H Q E →
    codeAny (model P w) A (.call (.ref f) ⟨us, ks.zip ws⟩) (CR (L2.CX P w) outer P w H s Q E) s
theorem Fc.mono {j : Nat} {ks : List Str} (F : Fc P w K mg base j f ks sp) (h : j ≤ k) : Fc P w K mg base k f ks sp := fun A outer s H us ws vs Q E hr => F A outer s H us ws vs Q E (hr.mono h)
theorem Fc.imp {sp' : Sp} {ks : List Str} (F : Fc P w K mg base k f ks sp) (h : ∀ vs H Q E, sp' vs H Q E → sp vs H Q E) : Fc P w K mg base k f ks sp' :=
  fun A outer s H us ws vs Q E hr he hv hl hs => F A outer s H us ws vs Q E hr he hv hl (h _ _ _ _ hs)
/-- every parameter is given by place -/
theorem Fb.all (F : Fb P w K mg base k f fd ps sp) (hb : Binds K fd ps []) : Fc P w K mg base k f [] sp := fun A outer s H us ws vs Q E hr e0 r hl h => by
  cases ws with
  | cons w ws => cases hl
  | nil =>
    rw [List.append_nil] at r
    have KX : K.In s.heap := e0.mod.kin.keeps fun b o e => (e0.bs b o e).1
    have l2 : us.length = ps.length := by rw [← r.length]; exact F.len _ _ _ _ h
    have b := hb s us KX (by rw [List.append_nil]; exact l2)
    rw [List.append_nil] at b
    exact F.run A outer s H ⟨us, []⟩ us vs Q E hr e0 b r h
/-- some by place, some by name, some left out: g puts the given ones and the defaults into the parameters' order -/
theorem Fb.shape (D : FunD K x qual params body scope dvs kws f fd) (F : Fb P w K mg base k f fd ps sp) (n : Nat) (ks : List Str) (g : {α : Type} → List α → List α → List α) (hd : dvs ≠ [])
    (hrel : ∀ {vs ds : List V} {us its : List Value}, Vals vs us → Vals ds its → Vals (g vs ds) (g us its))
    (h : ∀ (T : Addr) (kV doc pm : Value) (an : Option Addr) (cdv ct : Value) (us ws its : List Value), us.length = n → ws.length = ks.length → its.length = dvs.length →
      ∃ k, bindArgs (PySem.W.fnOf x qual params body scope (.ref T) kV doc pm an cdv ct) ⟨us, ks.zip ws⟩ = seqItems? (.ref T) >>= k ∧ k (some its.toArray) = pure (ps.zip (g (us ++ ws) its))) :
    Fc P w K mg base k f ks (fun vs H Q E => vs.length = n + ks.length ∧ sp (g vs dvs) H Q E) := by
  obtain ⟨oc, od, dV, kV, doc, pm, an, cdv, ct, osl, rfl, lk, hcd, hD, hK⟩ := D.ex
  rcases hD with ⟨e, _⟩ | ⟨_, T, o, its, m, rfl, lT, oT, rT⟩
  · exact absurd e hd
  · intro A outer s H us ws vs Q E hr e0 r hl hsp
    have KX : K.In s.heap := e0.mod.kin.keeps fun b o e => (e0.bs b o e).1
    have l1 : its.length = dvs.length := rT.length.symm
    have l2 : us.length = n := by
      have e := r.length
      rw [hsp.1, List.length_append, hl] at e
      omega
    obtain ⟨k, e1, e2⟩ := h T kV doc pm an cdv ct us ws its l2 hl l1
    refine F.run A outer s H ⟨us, ks.zip ws⟩ (g (us ++ ws) its) (g vs dvs) Q E hr e0 (BindsTo.of_looks fun M => ?_) (hrel r rT) hsp.2
    rw [e1]
    exact looks_items KX lT oT (.of_pure e2)
/-- all parameters given, some by name, no defaults -/
theorem Fb.names (D : FunD K x qual params body scope [] kws f fd) (F : Fb P w K mg base k f fd ps sp) (n : Nat) (ks : List Str) (g : {α : Type} → List α → List α)
    (hrel : ∀ {vs : List V} {us : List Value}, Vals vs us → Vals (g vs) (g us))
    (h : ∀ (kV doc pm : Value) (an : Option Addr) (cdv ct : Value) (us ws : List Value), us.length = n → ws.length = ks.length →
      bindArgs (PySem.W.fnOf x qual params body scope .none kV doc pm an cdv ct) ⟨us, ks.zip ws⟩ = pure (ps.zip (g (us ++ ws)))) :
    Fc P w K mg base k f ks (fun vs H Q E => vs.length = n + ks.length ∧ sp (g vs) H Q E) := by
  obtain ⟨oc, od, dV, kV, doc, pm, an, cdv, ct, osl, rfl, lk, hcd, hD, hK⟩ := D.ex
  rcases hD with ⟨_, rfl⟩ | ⟨e, _⟩
  · intro A outer s H us ws vs Q E hr e0 r hl hsp
    have l2 : us.length = n := by
      have e := r.length
      rw [hsp.1, List.length_append, hl] at e
      omega
    exact F.run A outer s H ⟨us, ks.zip ws⟩ (g (us ++ ws)) (g vs) Q E hr e0 (.of_eq (h kV doc pm an cdv ct us ws l2 hl)) (hrel r) hsp.2
  · exact absurd rfl e
end
def tFc (sp : Sp) (W : WX) (t : TA) : TE := fun σ H Q => t σ H fun vs H1 => sp vs H1 Q (WE W σ)
section
variable {X : Cx} {k : Nat} {f C : Addr} {ks : List Str} {sp : Sp} {W : WX} {x m : Str} {p pos apos : Pos} {e o : Expr} {es : List Expr} {kws : List Keyword} {ta : TE} {t tk : TA}
theorem run_fc {pins : List (Addr × Obj)} {σ : L2.St} {H : Hp} {s : Shared} {Q : VK} {us ws : List Value} {vs : List V} (F : Fc X.prog X.w X.K X.mg X.base k f ks sp) (hr : Rm k X.A) (hx : Takes X W)
    (I : Inv X pins σ H s) (r : Vals vs (us ++ ws)) (hl : ws.length = ks.length) (h : sp vs H Q (WE W σ)) : wpAny (model X.prog X.w) X.A (call (.ref f) us (ks.zip ws)) (EP X pins σ Q) X.xe s := by
  refine wpAny_call (codeAny_mono (F X.A X.stack s H us ws vs Q (WE W σ) hr I.env0 r hl h) fun r s' hq => ?_)
  cases r with
  | error e => exact passAt hx σ pins H s e s' I hq
  | ok fl =>
    cases fl with
    | ret u => exact I.after hq
    | next => exact False.elim hq
    | brk => exact False.elim hq
    | cont => exact False.elim hq
/-- f(e, ..) -/
theorem c_call (F : Fc X.prog X.w X.K X.mg X.base k f [] sp) (hr : Rm k X.A) (hm : X.mg x = some (.ref f)) (hk : PySem.W.keepIn X.K (.ref f) = true) (hx : Takes X W)
    (ha : PA X (e :: es) t) (hg : Gl X x := by rfl) (hdb : (x == ("__debug__" : Str)) = false := by decide) (he : starEach (e :: es) X.env = (false, eval e X.env) :: starEach es X.env := by rfl) (hpl : (backTo pos (starEach es X.env)).any (·.1) = false := by rfl) :
    PE X (.Call (.Name x p) (e :: es) [] pos) (tFc sp W t) := by
  refine ⟨fun pins s σ H Q I h => ?_⟩
  refine wpAny_Call_Name_kw (ld_glob I hg hm ?_ hdb)
  refine PySem.W.callWith_K (h₀ := X.base) I.ok.mod.kin hk (thn (ha.run pos pins s σ H _ I h) fun us s1 ⟨vs, H1, I1, r, q⟩ => ⟨I1.kIn, ?_⟩) he hpl
  exact run_fc (ws := []) F hr hx I1 (by rw [List.append_nil]; exact r) rfl q
end
@[irreducible] def rRepr (K : PySem.W.Frag) : List V → Hp → VK → Prop := fun xs H Q => ∃ (a : Addr) (d : PyData), xs = [.ref a] ∧ Dp K H (.ref a) d ∧ d.hasDict = false ∧ d.showable = true ∧ d.depth ≤ 60 ∧ d.shown.length ≤ sizeLine ∧ Q (.str d.shown) H
theorem call_repr {X : Cx} {k : Nat} (hr : Rm k X.A) : CallR X (.builtin "repr") (rRepr X.K) := by
  intro pins s σ H xs us Q I r h
  unfold rRepr at h
  obtain ⟨a, d, rfl, hd, hnd, hs, hdp, hsz, q⟩ := h
  cases r with
  | cons r1 r2 =>
    cases r2
    obtain ⟨as, rd⟩ := Dp.reads I d (.ref a) _ hd r1
    obtain rfl : _ = Value.ref a := r1
    refine repr_of_reads' rd hs (PyData.noDict_hsm hnd) hr.gd (by have := hr.rm.un; omega) (fun _ _ e => e) (fun h' u tk hk => ?_) hsz
    exact ⟨.str d.shown, H, I.kept hk, ⟨u, rfl⟩, q⟩
theorem rm_caller : Rm 230 callerA := ⟨⟨rfl, by decide, by decide⟩, rfl⟩
section
variable {P : Program} {w : World} {K : PySem.W.Frag} {mg mb : Str → Option Value} {k : Nat} {fa a : Addr} {fd : FuncData} {x : Str} {sp : Sp} {s₁ : Shared} {vs : List Value} {ns : List Int}
/-- the law's call over one abstract heap, in which at most the script is tracked -/
theorem law_core (H : Hp) (KX : K.In s₁.heap) (hns : s₁.heap.Ns mainGlobals mg) (hb : s₁.heap.Ns builtinsNs mb) (hbb : ∀ x : Str, x ≠ "__name__" → mb x = bootBuiltins x) (hlim : s₁.heap.NoLimit) (hg : s₁.gens = #[])
    (ha : s₁.heap.get? a = some { cls := .type "list", data := .seq vs.toArray }) (hr : Rm k callerA)
    (F : ∀ base : Heap, K.In base → base.Ns mainGlobals mg → Fb P w K mg base k fa fd [x] sp) (hbind : ∀ (s : Shared) (u : Value), BindsTo s fd ⟨[u], []⟩ [(x, u)])
    (hO : Only H) (hsp : sp [.ref a] H (fun v _ => v = .bl true) fun _ _ _ => False) (hok : HOk P w H s₁.heap) (hA : ∀ b, H b ≠ none → b = a) (hK : H a ≠ none → K.lookup a = none) :
    codeAny (model P w) callerA (.call (.ref fa) ⟨[.ref a], []⟩) (fun r s' => r = .ok (.ret (.bool true)) ∧ OldK s₁.heap s'.heap ∧ s'.os = s₁.os ∧ AllBare s'.gens) s₁ := by
  have isA : ∀ {b : Addr} {u : HO}, H b = some u → b = a := fun {b u} q => hA b (fun z => nomatch (q.symm.trans z))
  have free : ∀ {b : Addr} {o : Obj} {es : Array DictEntry} {ep : Nat}, s₁.heap.get? b = some o → o.data = .dict es ep → H b = none := fun {b o es ep} e d => by
    cases q : H b with
    | none => rfl
    | some u =>
      have eb := isA q
      subst eb
      rw [ha] at e
      cases e
      cases (show Data.seq vs.toArray _ = Data.dict es ep from d)
  have nsK : ∀ {b : Addr} {m : Str → Option Value}, s₁.heap.Ns b m → (hidT s₁.heap H).Ns b m := fun {b m} ⟨o, es, ep, e, d, r⟩ => ⟨o, es, ep, hidT_get e (free e d), d, r⟩
  have inK : K.In (hidT s₁.heap H) := fun b o e => hidT_get (KX b o e) (by
    cases q : H b with
    | none => rfl
    | some u =>
      have eb := isA q
      subst eb
      rw [hK (fun z => nomatch (q.symm.trans z))] at e
      cases e)
  have hM : Mod K mg (hidT s₁.heap H) := ⟨inK, nsK hns, ⟨mb, nsK hb, hbb⟩, let ⟨mc, h1, h2⟩ := hlim; ⟨mc, nsK h1, h2⟩⟩
  have e0 : Env0 P w K mg (hidT s₁.heap H) callerA [] s₁ H := ⟨rfl, hM, fun b o e => of_hidT e, Nat.le_of_eq (hidT_size _ _), trivial, (fun b z => nomatch (show b ∈ ([] : List Addr) from z)), hok, .of_eq hg⟩
  refine codeAny_mono ((F _ inK (nsK hns)).run callerA [] s₁ H ⟨[.ref a], []⟩ [.ref a] [.ref a] _ _ hr e0 (hbind s₁ (.ref a)) (.cons rfl .nil) hsp) fun r s' h => ?_
  cases r with
  | error e =>
    obtain ⟨_, _, _, _, _, _, _, _, _, _, _, _, z⟩ := h
    exact z.elim
  | ok fl =>
    cases fl with
    | next => exact h.elim
    | brk => exact h.elim
    | cont => exact h.elim
    | ret u =>
      obtain ⟨v, H', os, bare, un, hok2, rv, rfl⟩ := h
      obtain rfl : u = Value.bool true := rv
      refine ⟨rfl, OldK.of_keep fun b o e => ?_, os, bare⟩
      cases q : H b with
      | none => exact un.keep b o e q (fun z => nomatch (show b ∈ ([] : List Addr) from z)) (fun z => nomatch z)
      | some u =>
        rcases hO b with z | ⟨ob, xs, z⟩
        · exact nomatch (q.symm.trans z)
        · have e1 := (hok b _ z).1
          have e2 := (hok2 b _ (un.frzs b ob _ z)).1
          rw [e] at e1
          cases e1
          exact e2
theorem law_end (KX : K.In s₁.heap) (hns : s₁.heap.Ns mainGlobals mg) (hb : s₁.heap.Ns builtinsNs mb) (hbb : ∀ x : Str, x ≠ "__name__" → mb x = bootBuiltins x) (hlim : s₁.heap.NoLimit) (hg : s₁.gens = #[])
    (ha : s₁.heap.get? a = some { cls := .type "list", data := .seq vs.toArray }) (hi : IntsAre vs ns) (hl : ns.length ≤ sizeLine) (hr : Rm k callerA)
    (F : ∀ base : Heap, K.In base → base.Ns mainGlobals mg → Fb P w K mg base k fa fd [x] sp) (hbind : ∀ (s : Shared) (u : Value), BindsTo s fd ⟨[u], []⟩ [(x, u)])
    (hsp : ∀ H : Hp, SqL K H a (ns.map V.int) → sp [.ref a] H (fun v _ => v = .bl true) fun _ _ _ => False) :
    codeAny (model P w) callerA (.call (.ref fa) ⟨[.ref a], []⟩) (fun r s' => r = .ok (.ret (.bool true)) ∧ OldK s₁.heap s'.heap ∧ s'.os = s₁.os ∧ AllBare s'.gens) s₁ := by
  have rv := vals_ints hi
  cases hk : K.lookup a with
  | some o =>
    have e := KX a o hk
    rw [ha] at e
    cases e
    have sq : SqL K (fun _ => none) a (ns.map V.int) := .inr ⟨_, vs.toArray, _, hk, rfl, rfl, rfl, by rw [List.size_toArray, hi.length]; exact hl, by simpa using rv⟩
    exact law_core (fun _ => none) KX hns hb hbb hlim hg ha hr F hbind (fun _ => .inl rfl) (hsp _ sq) (fun b u z => nomatch (show (none : Option HO) = some u from z)) (fun b z => absurd rfl z) fun z => absurd rfl z
  | none =>
    have h1 : ∀ b, b ≠ a → (upd (fun _ => none) a (.frz { cls := .type "list", data := .seq vs.toArray } (.lst (ns.map V.int)))) b = none := fun b n => upd_ne n
    refine law_core (upd (fun _ => none) a (.frz { cls := .type "list", data := .seq vs.toArray } (.lst (ns.map V.int)))) KX hns hb hbb hlim hg ha hr F hbind (fun b => ?_) (hsp _ (.inl (.inr ⟨_, upd_same⟩))) (fun b u z => ?_) (fun b z => ?_) fun _ => hk
    · by_cases n : b = a
      · subst n
        exact .inr ⟨_, _, upd_same⟩
      · exact .inl (h1 b n)
    · by_cases n : b = a
      · subst n
        rw [upd_same] at z
        cases z
        exact ⟨ha, by rw [List.length_map]; exact hl, vs, _, rv, ha⟩
      · rw [h1 b n] at z
        cases z
    · by_cases n : b = a
      · exact n
      · exact absurd (h1 b n) z
end
theorem walk_end {l : PySem.W.OpenLaw} {n k : Nat} {q : Program} {loose : List Str} {XP : (Str → Option Value) → Heap → Prop} {YP : World → Heap → Prop} {d : DefRec} {x : Str}
    (hn : l.most = some n) (hn2 : n ≤ sizeLine) (hdf : d.params.defaults = []) (hr : Rm k callerA)
    (F : ∀ (w : World) (mg : Str → Option Value) (fa : Addr) (h : Heap), YP w h → h.Ns mainGlobals mg → mg d.name = some (.ref fa) →
      ∃ (K : PySem.W.Frag) (fd : FuncData) (sp : Sp), K.In h ∧ (∀ (s : Shared) (u : Value), BindsTo s fd ⟨[u], []⟩ [(x, u)]) ∧
        (∀ (H : Hp) (a : Addr) (ns : List Int), ns.length ≤ n → SqL K H a (ns.map V.int) → sp [.ref a] H (fun v _ => v = .bl true) fun _ _ _ => False) ∧
        ∀ base : Heap, K.In base → base.Ns mainGlobals mg → Fb l.prog w K mg base k fa fd [x] sp) :
    PySem.W.WalkO q loose XP YP l.row.toRowW d [] (fun f vs => PySem.call f vs) := by
  refine Att.attach_call hn hdf fun w s₀ s₁ mg mb fa o pm cd doc a vs ns G Y ho hd hcd hmg hobj hints hlen hg => ?_
  obtain ⟨K, fd, sp, KX, hb, hsp, hF⟩ := F w mg fa _ Y G.T.g hmg
  exact law_end KX G.T.g G.T.b G.T.builtins G.T.nolimit hg hobj hints (Nat.le_trans hlen hn2) hr hF hb (fun H hS => hsp H a ns hlen hS)
end L3
set_option Elab.async false
set_option linter.all false
set_option maxRecDepth 100000
set_option maxHeartbeats 4000000
namespace L3
open PySem PySem.Spec PyProof.Rows L2
abbrev Fx := PySem.W.Frag → Bool
def obsX (xf : List Fx) (fn : List He.DefD) (K : PySem.W.Frag) : He.AlD := ((xf.all fun p => p K) && fn.all fun d => d.ok K, fn.map fun d => He.fnW K d.at_)
def SaysX (xf : List Fx) (fn : List He.DefD) (K : PySem.W.Frag) : Prop := obsX xf fn K = He.valD fn
section
variable {xf : List Fx} {fn : List He.DefD} {K : PySem.W.Frag}
theorem SaysX.fact (c : SaysX xf fn K) (i : Nat) {f : Fx} (h : xf[i]? = some f := by rfl) : f K = true := by
  have c1 := (He.ba (show ((xf.all fun f => f K) && fn.all fun d => d.ok K) = true from congrArg (fun z : He.AlD => z.1) c)).1
  exact List.all_eq_true.mp c1 f (List.mem_of_getElem? h)
theorem SaysX.def_ (c : SaysX xf fn K) (i : Nat) {d : He.DefD} (h : fn[i]? = some d := by rfl) : ∃ fd, FunD K d.name d.qual d.params d.body d.scope (d.dvs K) (d.kws K) (He.fAd K d.at_) fd := by
  have c2 := (He.ba (show ((xf.all fun f => f K) && fn.all fun d => d.ok K) = true from congrArg (fun z : He.AlD => z.1) c)).2
  have e : fn.map (fun d => He.fnW K d.at_) = fn.map He.DefD.val := congrArg (fun z : He.AlD => z.2) c
  have e2 : (fn.map fun d => He.fnW K d.at_)[i]? = (fn.map He.DefD.val)[i]? := by rw [e]
  rw [List.getElem?_map, List.getElem?_map, h] at e2
  exact He.DefD.funD (Option.some.inj e2) (List.all_eq_true.mp c2 d (List.mem_of_getElem? h))
end
structure Exo (K : PySem.W.Frag) (C : Addr) (bmB : List Value) (newId : String) : Prop where
  x : PySem.W.excIn K C bmB newId = true
  kp : PySem.W.keepIn K (.ref C) = true
  sub : PySem.W.subIn K (.ref C) (.type "BaseException") = some true
  ty : PySem.W.typeIn K (.ref C) = some (.type "type")
abbrev bmV : List Value := [.type "ValueError", .type "Exception", .type "BaseException", .type "object"]
def exoB (bmB : List Value) (newId : String) (x : Str) : Fx := fun K => PySem.W.excIn K (He.ga K x) bmB newId && (PySem.W.keepIn K (.ref (He.ga K x)) && (decide (PySem.W.subIn K (.ref (He.ga K x)) (.type "BaseException") = some true) && decide (PySem.W.typeIn K (.ref (He.ga K x)) = some (.type "type"))))
theorem exo_of {bmB : List Value} {newId : String} {x : Str} {K : PySem.W.Frag} (h : exoB bmB newId x K = true) : Exo K (He.ga K x) bmB newId := by
  obtain ⟨h1, h⟩ := He.ba h
  obtain ⟨h2, h⟩ := He.ba h
  obtain ⟨h3, h4⟩ := He.ba h
  exact ⟨h1, h2, of_decide_eq_true h3, of_decide_eq_true h4⟩
section
variable {K : PySem.W.Frag} {h : Heap} {mg : Str → Option Value}
theorem gint_of (X : K.In h) (G : h.Ns mainGlobals mg) {x : Str} {i : Int} (c : (He.Fa.int x i).ok K = true) : ∃ u, mg x = some u ∧ RelV (.int i) u := by
  obtain ⟨t, e⟩ := He.int_ok X G c
  exact ⟨_, e, ⟨t, rfl⟩⟩
theorem gstr_of (X : K.In h) (G : h.Ns mainGlobals mg) {x z : Str} (c : (He.Fa.str x z).ok K = true) : ∃ u, mg x = some u ∧ RelV (.str z) u := by
  obtain ⟨t, e⟩ := He.str_ok X G c
  exact ⟨_, e, ⟨t, rfl⟩⟩
end
/-- a module's constant -/
theorem pe_k {X : Cx} {x : Str} {v : V} {pos : Pos} (h : ∃ u, X.mg x = some u ∧ RelV v u) (hg : Gl X x := by rfl) (hdb : (x == ("__debug__" : Str)) = false := by decide) : PE X (.Name x pos) (tC v) := by
  obtain ⟨u, e, r⟩ := h
  exact pe_glob hg e r hdb
end L3
set_option Elab.async false
set_option linter.all false
set_option maxRecDepth 100000
set_option maxHeartbeats 4000000
namespace L3
open PySem PySem.Spec PyProof.Rows L2
abbrev Ex (H H' : Hp) : Prop := Same H H'
theorem ex_new {H : Hp} {p : Addr} {o : HO} (h : H p = none) : Ex H (upd H p o) := fun a u e => by
  rw [upd_ne (ne_of_none e h)]
  exact e
/-- an object that H does not know may change -/
theorem ex_mut {H H' : Hp} {p : Addr} {o : HO} (e : Ex H H') (h : H p = none) : Ex H (upd H' p o) := fun a u ha => by
  rw [upd_ne (ne_of_none ha h)]
  exact e a u ha
theorem ex_sql {K : PySem.W.Frag} {H H' : Hp} {a : Addr} {xs : List V} (e : Ex H H') (h : SqL K H a xs) : SqL K H' a xs := Same.seq e h
theorem ex_sqt {K : PySem.W.Frag} {H H' : Hp} {a : Addr} {xs : List V} (e : Ex H H') (h : SqT K H a xs) : SqT K H' a xs := by
  rcases h with (h | ⟨o, h⟩) | h
  · exact .inl (.inl (e _ _ h))
  · exact .inl (.inr ⟨o, e _ _ h⟩)
  · exact .inr h
theorem ex_fresh {H H' : Hp} {p : Addr} (e : Ex H H') (h : H' p = none) : H p = none := Same.free e h
theorem sq_lst {K : PySem.W.Frag} {H : Hp} {a : Addr} {xs : List V} (h : H a = some (.lst xs)) : SqL K H a xs := .inl (.inl h)
theorem sq_tup {K : PySem.W.Frag} {H : Hp} {a : Addr} {xs : List V} (h : H a = some (.tup xs)) : SqT K H a xs := .inl (.inl h)
/-- a value of a known type -/
def isW : V → Bool
  | .int _ => true
  | _ => false
def isM : V → Bool
  | .int i => decide (0 ≤ i)
  | _ => false
def isB (n : Int) : V → Bool
  | .int i => decide (0 ≤ i) && decide (i < n)
  | _ => false
def Cl (K : PySem.W.Frag) (H : Hp) (x : V) : Prop := ∃ t b c, TyX K H x t ∧ PySem.W.kitOne K t (.type "int") = some b ∧ PySem.W.kitOne K t (.type "bool") = some c ∧ isW x = (b && !c)
section
variable {K : PySem.W.Frag} {H : Hp}
theorem cl_int (i : Int) : Cl K H (.int i) := ⟨_, true, false, .base (.int i), kit_ty (by decide +kernel), kit_ty (by decide +kernel), rfl⟩
end
theorem isM_w {x : V} (h : isM x = true) : ∃ i, x = .int i ∧ 0 ≤ i := by
  cases x with
  | int i => exact ⟨i, rfl, of_decide_eq_true h⟩
  | _ => cases h
/-- given values and defaults in the parameters' order -/
def pick {α : Type} (ix : List (Sum Nat Nat)) (us its : List α) : List α := ix.filterMap fun j => match j with
  | .inl i => us[i]?
  | .inr i => its[i]?
theorem pick_vals {vs ds : List V} {us its : List Value} (ix : List (Sum Nat Nat)) (r1 : Vals vs us) (r2 : Vals ds its) : Vals (pick ix vs ds) (pick ix us its) := by
  have one : ∀ {vs : List V} {us : List Value} (i : Nat), Vals vs us → (∃ v u, vs[i]? = some v ∧ us[i]? = some u ∧ RelV v u) ∨ (vs[i]? = none ∧ us[i]? = none) := fun {vs us} i r => by
    cases e : vs[i]? with
    | none => exact .inr ⟨rfl, r.none_of e⟩
    | some v =>
      obtain ⟨u, h1, h2⟩ := r.get e
      exact .inl ⟨v, u, rfl, h1, h2⟩
  induction ix with
  | nil => exact .nil
  | cons j ix ih =>
    unfold pick at ih ⊢
    cases j with
    | inl i =>
      rcases one i r1 with ⟨v, u, h1, h2, h3⟩ | ⟨h1, h2⟩
      · simp only [List.filterMap_cons, h1, h2]
        exact .cons h3 ih
      · simp only [List.filterMap_cons, h1, h2]
        exact ih
    | inr i =>
      rcases one i r2 with ⟨v, u, h1, h2, h3⟩ | ⟨h1, h2⟩
      · simp only [List.filterMap_cons, h1, h2]
        exact .cons h3 ih
      · simp only [List.filterMap_cons, h1, h2]
        exact ih
end L3
namespace L3
open PySem PySem.Spec PyProof.Rows L2
theorem log_of {n : Nat} (h : n < 10 ^ 200) : n.log2 < 1920 := PySem.Flt.log2_lt_of (by decide) (Nat.lt_trans h (by decide +kernel))
/-- data that repr shows, without dicts: whole numbers of at most 500 figures, texts of any signs -/
def okI (i : Int) : Bool := decide (i.natAbs < 10 ^ 200)
def okT (x : Str) : Bool := x.cps.toList.all fun c => decide (c < 16 ^ 8)
mutual
def okD : PyData → Bool
  | .none => true
  | .bool _ => true
  | .int i => okI i
  | .str x => okT x
  | .list xs => okL xs
  | .tuple xs => okL xs
  | .dict _ => false
def okL : List PyData → Bool
  | [] => true
  | x :: xs => okD x && okL xs
end
mutual
def szD : PyData → Nat
  | .none => 4
  | .bool _ => 5
  | .int _ => 1921
  | .str x => 10 * x.length + 2
  | .list xs => szL xs + 3
  | .tuple xs => szL xs + 3
  | .dict _ => 0
def szL : List PyData → Nat
  | [] => 0
  | x :: xs => szD x + 2 + szL xs
end
mutual
theorem okD_tells : ∀ d : PyData, okD d = true → d.hasDict = false ∧ d.showable = true ∧ d.shown.length ≤ szD d
  | .none, _ => ⟨rfl, rfl, Nat.le_refl _⟩
  | .bool b, _ => ⟨rfl, rfl, by cases b <;> decide⟩
  | .int i, h => by
    have h1 : i.natAbs < 10 ^ 200 := of_decide_eq_true (show decide (i.natAbs < 10 ^ 200) = true from h)
    exact ⟨rfl, decide_eq_true (log_of h1), int_text_len_1921 (log_of h1)⟩
  | .str x, h => by
    have h1 : ∀ c ∈ x.cps.toList, c < 16 ^ 8 := fun c hc => of_decide_eq_true (List.all_eq_true.mp h c hc)
    exact ⟨rfl, rfl, StrLaws.reprText_len x h1⟩
  | .list xs, h => by
    obtain ⟨h1, h2, h3⟩ := okL_tells xs h
    refine ⟨h1, h2, Nat.le_trans (listText_len_le (PyData.shownAll xs)) ?_⟩
    have e := PyData.shownAll_length xs
    show _ ≤ szL xs + 3
    omega
  | .tuple xs, h => by
    obtain ⟨h1, h2, h3⟩ := okL_tells xs h
    refine ⟨h1, h2, Nat.le_trans (tupleText_len_le (PyData.shownAll xs)) ?_⟩
    have e := PyData.shownAll_length xs
    show _ ≤ szL xs + 3
    omega
  | .dict _, h => by cases h
theorem okL_tells : ∀ xs : List PyData, okL xs = true → PyData.hasDictAll xs = false ∧ PyData.showableAll xs = true ∧ ((PyData.shownAll xs).map (·.length)).sum + 2 * xs.length ≤ szL xs
  | [], _ => ⟨rfl, rfl, Nat.le_refl _⟩
  | x :: xs, h => by
    obtain ⟨g1, g2⟩ := He.ba (show (okD x && okL xs) = true from h)
    obtain ⟨h1, h2, h3⟩ := okD_tells x g1
    obtain ⟨k1, k2, k3⟩ := okL_tells xs g2
    refine ⟨?_, ?_, ?_⟩
    · show (x.hasDict || PyData.hasDictAll xs) = false
      rw [h1, k1]
      rfl
    · show (x.showable && PyData.showableAll xs) = true
      rw [h2, k2]
      rfl
    · show (x.shown.length + ((PyData.shownAll xs).map (·.length)).sum) + 2 * (xs.length + 1) ≤ szD x + 2 + szL xs
      omega
end
/-- repr of a list, a tuple -/
theorem rr_data {K : PySem.W.Frag} {H : Hp} {a : Addr} {d : PyData} {Q : VK} (h : Dp K H (.ref a) d) (ho : okD d = true) (hz : szD d ≤ 16000000) (hd : d.depth ≤ 60) (q : Q (.str d.shown) H) : rRepr K [.ref a] H Q := by
  obtain ⟨h1, h2, h3⟩ := okD_tells d ho
  unfold rRepr
  exact ⟨a, d, rfl, h, h1, h2, hd, Nat.le_trans h3 (Nat.le_trans hz (by rw [sizeLine_eq]; decide)), q⟩
section
variable {K : PySem.W.Frag} {H : Hp} {a : Addr} {ns : List Int} {Q : VK}
theorem dpAll_ints (K : PySem.W.Frag) (H : Hp) : ∀ ns : List Int, DpAll K H (ns.map V.int) (ns.map PyData.int)
  | [] => .nil
  | n :: ns => .cons (.int n) (dpAll_ints K H ns)
theorem ints_ok : ∀ ns : List Int, (∀ n ∈ ns, okI n = true) → okL (ns.map PyData.int) = true
  | [], _ => rfl
  | n :: ns, h => by
    show (okI n && okL (ns.map PyData.int)) = true
    rw [ints_ok ns fun m hm => h m (List.mem_cons_of_mem _ hm), h n List.mem_cons_self]
    rfl
theorem ints_sz : ∀ ns : List Int, szL (ns.map PyData.int) = 1923 * ns.length
  | [] => rfl
  | n :: ns => by
    show 1921 + 2 + szL (ns.map PyData.int) = 1923 * (ns.length + 1)
    rw [ints_sz ns]
    omega
theorem ints_depth : ∀ ns : List Int, PyData.depthAll (ns.map PyData.int) = 0
  | [] => rfl
  | n :: ns => by
    show max 0 (PyData.depthAll (ns.map PyData.int)) = 0
    rw [ints_depth ns]
    rfl
/-- the text of a list of whole numbers -/
def txtI (ns : List Int) : Str := PyData.shown (.list (ns.map PyData.int))
/-- repr(xs), xs a list of whole numbers -/
theorem rr_ints (h : SqL K H a (ns.map V.int)) (hs : ∀ n ∈ ns, okI n = true) (hl : ns.length ≤ 8000) (q : Q (.str (txtI ns)) H) : rRepr K [.ref a] H Q := by
  refine rr_data (.lst h (dpAll_ints K H ns)) (ints_ok ns hs) ?_ ?_ q
  · show szL (ns.map PyData.int) + 3 ≤ 16000000
    rw [ints_sz]
    omega
  · show PyData.depthAll (ns.map PyData.int) + 1 ≤ 60
    rw [ints_depth]
    decide
end
end L3
namespace L3
open PySem PySem.Spec PyProof.Rows L2
section
variable {K : PySem.W.Frag} {a : Addr} {xs : List V} {g : TG} {tt : TT} {te : TE} {vs : List Nat} {σ : L2.St} {H1 : Hp} {D : Addr} {Qd : Hp → Prop}
theorem small_len {n : Nat} (h : n ≤ 100000) : n < sizeLine := Nat.lt_of_le_of_lt h (by rw [sizeLine_eq]; decide)
abbrev Turn (g : TG) (tt : TT) (te : TE) (vs : List Nat) (σ : L2.St) (D : Addr) (x : V) (H : Hp) (N : Hp → Prop) : Prop :=
  g x (wipe σ vs) H fun σ2 H2 => wipe σ2 vs = wipe σ vs ∧ tt σ2 H2 fun b H3 => if b = true then te σ2 H3 fun y H4 => ∃ acc, H4 D = some (.lst acc) ∧ acc.length < sizeLine ∧ N (upd H4 D (.lst (acc ++ [y]))) else N H3
end
end L3
namespace L3
open PySem PySem.Spec PyProof.Rows L2
abbrev turns (most : Int) (n : Nat) : Int := if (if most < (n : Int) then most else (n : Int)) > (1 : Int) then (if most < (n : Int) then most else (n : Int)) else (1 : Int)
theorem turns_lo (most : Int) (n : Nat) (h : 0 < most ∧ most ≤ 63) : -(2 ^ 62) ≤ turns most n := by
  unfold turns
  split <;> split <;> omega
theorem turns_hi (most : Int) (n : Nat) (h : 0 < most ∧ most ≤ 63) : turns most n < 2 ^ 62 := by
  unfold turns
  split <;> split <;> omega
theorem turns_lt {i : Nat} (most : Int) (n : Nat) (h : 0 < most ∧ most ≤ 63) (hi : i < (turns most n).toNat) : i < 1000 := by
  unfold turns at hi
  split at hi <;> split at hi <;> omega
end L3
set_option Elab.async false
set_option linter.all false
set_option maxRecDepth 100000
set_option maxHeartbeats 4000000
namespace L3
open PySem PySem.Spec PyProof.Rows L2 TL
section
variable {J : It} {n : Nat} {G : Hp → Prop} {Y : Nat → Hp → V → Hp → Prop} {g : TG} {tt : TT} {te : TE} {vs : List Nat} {σ : L2.St} {H1 : Hp} {D : Addr} {Qd : Hp → Prop}
theorem range_fm_succ (fm : Nat → Option V) (i : Nat) : (List.range (i + 1)).filterMap fm = match fm i with
    | some y => (List.range i).filterMap fm ++ [y]
    | none => (List.range i).filterMap fm := by
  rw [List.range_succ, List.filterMap_append]
  cases e : fm i with
  | none => simp [e]
  | some y => simp [e]
theorem fm_len (fm : Nat → Option V) (i : Nat) : ((List.range i).filterMap fm).length ≤ i := by
  have := List.length_filterMap_le fm (List.range i)
  rwa [List.length_range] at this
theorem lc_fm (w : L2.Walk J n G Y) (fm : Nat → Option V) (I : Hp → Prop) (hI : ∀ H l, I H → I (upd H D (.lst l))) (i0 : I H1) (hn : n ≤ 100000) (hG : ∀ H, I H → G H)
    (hs : ∀ (i : Nat) (x : V) (H H' : Hp) (acc : List V) (N : Hp → Prop), i < n → I H → H D = some (.lst acc) → acc.length < sizeLine → Y i H x H' →
      (∀ H4, I H4 → H4 D = some (.lst acc) → match fm i with | some y => N (upd H4 D (.lst (acc ++ [y]))) | none => N H4) → Turn g tt te vs σ D x H' N)
    (hd : ∀ H, I H → H D = some (.lst ((List.range n).filterMap fm)) → Qd H) :
    ∃ W : Nat → Nat → Hp → Prop, (∃ m, W 0 m (upd H1 D (.lst []))) ∧ ∀ i m H, W i m H →
      (J.stop i H ∧ Qd H) ∨ (J.go i H ∧ ∃ Nx : Hp → Prop, (∀ H', Nx H' → ∃ m', m' < m ∧ W (i + 1) m' H') ∧ ∀ x H', J.yld i H x H' → Turn g tt te vs σ D x H' Nx) := by
  refine L2.lc_it w (fun i H => I H ∧ i ≤ n ∧ H D = some (.lst ((List.range i).filterMap fm))) ⟨hI _ _ i0, Nat.zero_le _, upd_same⟩ (fun i H _ p => hG H p.1) ?_ (fun H p => hd H p.1 p.2.2)
  rintro i x H H' hi ⟨p1, p2, p3⟩ y
  refine hs i x H H' _ _ hi p1 p3 (small_len (Nat.le_trans (fm_len fm i) (by omega))) y fun H4 i4 d4 => ?_
  have e := range_fm_succ fm i
  cases q : fm i with
  | none =>
    rw [q] at e
    exact ⟨i4, hi, by rw [e]; exact d4⟩
  | some y =>
    rw [q] at e
    exact ⟨hI _ _ i4, hi, by rw [upd_same, e]⟩
end
theorem range_map_get {α β : Type} (l : List α) (d : α) (f : α → β) : (List.range l.length).filterMap (fun i => some (f (l.getD i d))) = l.map f := by
  apply List.ext_getElem?
  intro i
  rw [List.filterMap_eq_map' (f := fun i => f (l.getD i d))]
  rw [List.getElem?_map, List.getElem?_map]
  by_cases h : i < l.length
  · rw [List.getElem?_range h, List.getElem?_eq_getElem h]
    simp [List.getD_eq_getElem?_getD, h]
  · rw [List.getElem?_eq_none (by simpa using h), List.getElem?_eq_none (by simpa using h)]
    rfl
section
variable {X : Cx} {o e : Expr} {to te : TE}
theorem mt_rpartition : MtR X "str.rpartition" (fun x xs H Q => ∃ a b, x = .str a ∧ xs = [.str b] ∧ (b.length == 0) = false ∧ a.length ≤ sizeLine ∧
    ∀ p, H p = none → Q (.ref p) (upd H p (.tup [.str (Txt.rpartition a b).1, .str (Txt.rpartition a b).2.1, .str (Txt.rpartition a b).2.2]))) := by
  intro pins s σ H x xs v us Q I rx rs h
  obtain ⟨a, b, rfl, rfl, hb, hz, h⟩ := h
  obtain ⟨t, rfl⟩ := rx
  cases rs with
  | cons r1 rs =>
    cases rs
    obtain ⟨u, rfl⟩ := r1
    refine call_meets F.slot_str_rpartition (typeIs_str _ _ _) F.entry_str_rpartition (F.args_str_rpartition_2 _ _) (meets_str_rpartition a b t u hb hz) ?_
    unfold Txt.rpartition at h
    revert h
    cases Builtin.Str.lastOccurrence a b 0 a.length with
    | none => intro h; exact laid_parts I h
    | some i => intro h; exact laid_parts I h
theorem pe_rpartition {apos pos : Pos} (ho : PE X o to) (he : PE X e te) (hs : starEach [e] X.env = [(false, eval e X.env)] := by rfl) (hbase : attributeBase o "rpartition" X.env (eval o X.env) = eval o X.env := by rfl) (hline : (apos.endLine == pos.line) = true := by rfl) :
    PE X (.Call (.Attribute o "rpartition" apos) [e] [] pos) (tM1 (fun x xs H Q => ∃ a b, x = .str a ∧ xs = [.str b] ∧ (b.length == 0) = false ∧ a.length ≤ sizeLine ∧
      ∀ p, H p = none → Q (.ref p) (upd H p (.tup [.str (Txt.rpartition a b).1, .str (Txt.rpartition a b).2.1, .str (Txt.rpartition a b).2.2]))) to te) :=
  pe_m1 F.slot_str_rpartition F.type_str_rpartition mt_rpartition ho he hs hbase hline
/-- x * n, x a text of one sign -/
theorem op_repS : OpR X (binaryOp .Mult) (fun x y H Q => ∃ (a : Str) (n : Int), x = .str a ∧ y = .int n ∧ a.length ≤ 1000 ∧ 0 ≤ n ∧ n ≤ 10000 ∧ Q (.str (Txt.mul a n)) H) := by
  intro pins s σ H x y v u Q I rx ry h
  obtain ⟨a, n, rfl, rfl, ha, h0, h1, q⟩ := h
  obtain ⟨t, rfl⟩ := rx
  obtain ⟨t', rfl⟩ := ry
  refine SB.mul ⟨?_, fun z _ => ?_, fun z _ => ?_⟩ fun t' k => ⟨.str _, H, I.tok _, ⟨_, rfl⟩, q⟩
  · rw [decide_eq_false (by omega), decide_eq_false (by omega)]
    rfl
  · have hn : 0 < n := by omega
    have h2 : (a.length : Int) * n ≤ 1000 * 10000 := Int.mul_le_mul (by omega) h1 h0 (by decide)
    have h3 : (a.length : Int) ≤ (2 ^ 63 - 1) / n := Int.le_ediv_of_mul_le hn (by omega)
    omega
  · unfold Builtin.Str.tooLong
    rw [decide_eq_false]
    have h2 : a.length * n.toNat ≤ 1000 * 10000 := Nat.mul_le_mul ha (by omega)
    rw [sizeLine_eq]
    omega
end
end L3
set_option Elab.async false
set_option linter.all false
set_option maxRecDepth 100000
set_option maxHeartbeats 4000000
namespace Mo
open PySem TL
def isFig (c : Nat) : Bool := decide (48 ≤ c) && decide (c ≤ 57)
def figs (l : List Nat) : Bool := !l.isEmpty && l.all isFig
def val (l : List Nat) : Nat := NumText.digitsVal l
def num? (l : List Nat) : Option Nat := if figs l && !(decide (1 < l.length) && l.head? == some 48) then some (val l) else none
theorem isFig_iff {c : Nat} : isFig c = true ↔ 48 ≤ c ∧ c ≤ 57 := by
  unfold isFig
  rw [Bool.and_eq_true, decide_eq_true_eq, decide_eq_true_eq]
theorem all_digits {l : List Nat} (h : l.all isFig = true) : NumText.AllDigits l := fun c hc => isFig_iff.mp (List.all_eq_true.mp h c hc)
theorem all_fig {l : List Nat} (h : NumText.AllDigits l) : l.all isFig = true := List.all_eq_true.mpr fun c hc => isFig_iff.mpr (h c hc)
theorem figs_iff {l : List Nat} : figs l = true ↔ l ≠ [] ∧ NumText.AllDigits l := by
  unfold figs
  rw [Bool.and_eq_true]
  constructor
  · rintro ⟨h1, h2⟩
    exact ⟨(by rintro rfl; cases h1), all_digits h2⟩
  · rintro ⟨h1, h2⟩
    refine ⟨?_, all_fig h2⟩
    cases l with
    | nil => exact absurd rfl h1
    | cons a r => rfl
theorem figs_num (n : Nat) : figs (numL n) = true := figs_iff.mpr ⟨numL_ne n, numL_digits n⟩
theorem numL_head : ∀ n : Nat, 1 ≤ n → (numL n).head? ≠ some 48 := by
  intro n
  induction n using Nat.strongRecOn with
  | ind n ih =>
    intro h
    by_cases hn : n < 10
    · rw [numL_lt hn]
      simp
      omega
    · rw [numL_step (by omega)]
      have z := ih (n / 10) (by omega) (by omega)
      have y := numL_ne (n / 10)
      cases e : numL (n / 10) with
      | nil => exact absurd e y
      | cons a r =>
        rw [e] at z
        simpa using z
theorem numL_one {n : Nat} (h : 1 < (numL n).length) : 10 ≤ n := by
  by_cases hn : n < 10
  · rw [numL_lt hn] at h
    simp at h
  · omega
theorem val_num (n : Nat) : val (numL n) = n := numL_val n
theorem num_num (n : Nat) : num? (numL n) = some n := by
  unfold num?
  rw [figs_num, val_num]
  have e : (decide (1 < (numL n).length) && (numL n).head? == some 48) = false := by
    by_cases h : 1 < (numL n).length
    · have h2 := numL_head n (by have := numL_one h; omega)
      rw [decide_eq_true h]
      simpa using h2
    · rw [decide_eq_false h]
      rfl
  rw [e]
  rfl
theorem val_lt {l : List Nat} (h : NumText.AllDigits l) : NumText.digitsVal l < 10 ^ l.length := by
  have key : ∀ (l : List Nat) (a : Nat), NumText.AllDigits l → l.foldl (fun acc c => acc * 10 + (c - 48)) a < (a + 1) * 10 ^ l.length := by
    intro l
    induction l with
    | nil => intro a _; simp
    | cons c r ih =>
      intro a h
      have hc := h.head
      have z := ih (a * 10 + (c - 48)) h.tail
      rw [List.foldl_cons, List.length_cons, Nat.pow_succ]
      refine Nat.lt_of_lt_of_le z ?_
      have : (a * 10 + (c - 48) + 1) ≤ (a + 1) * 10 := by omega
      calc (a * 10 + (c - 48) + 1) * 10 ^ r.length ≤ (a + 1) * 10 * 10 ^ r.length := Nat.mul_le_mul_right _ this
        _ = (a + 1) * (10 ^ r.length * 10) := by rw [Nat.mul_assoc, Nat.mul_comm 10]
  have z := key l 0 h
  simpa [NumText.digitsVal] using z
def rcut (c : Nat) : List Nat → Option (List Nat × List Nat)
  | [] => none
  | x :: r => match rcut c r with
    | some (h, t) => some (x :: h, t)
    | none => if x = c then some ([], r) else none
theorem rcut_none {c : Nat} : ∀ {l : List Nat}, c ∉ l → rcut c l = none
  | [], _ => rfl
  | x :: r, h => by
    have h1 : c ∉ r := fun z => h (List.mem_cons_of_mem _ z)
    have h2 : x ≠ c := fun z => h (by rw [z]; exact List.mem_cons_self)
    unfold rcut
    rw [rcut_none h1]
    exact if_neg h2
theorem rcut_some {c : Nat} : ∀ (p : List Nat) {q : List Nat}, c ∉ q → rcut c (p ++ c :: q) = some (p, q)
  | [], q, h => by
    show rcut c (c :: q) = some ([], q)
    unfold rcut
    rw [rcut_none h]
    exact if_pos rfl
  | x :: p, q, h => by
    show rcut c (x :: (p ++ c :: q)) = some (x :: p, q)
    unfold rcut
    rw [rcut_some p h]
theorem rcut_is {c : Nat} : ∀ {l p q : List Nat}, rcut c l = some (p, q) → l = p ++ c :: q ∧ c ∉ q
  | [], _, _, h => by cases h
  | x :: r, p, q, h => by
    unfold rcut at h
    cases e : rcut c r with
    | some z =>
      obtain ⟨h1, h2⟩ := z
      rw [e] at h
      cases h
      obtain ⟨e1, e2⟩ := rcut_is e
      exact ⟨by rw [e1]; rfl, e2⟩
    | none =>
      rw [e] at h
      by_cases hx : x = c
      · have h' : some (([] : List Nat), r) = some (p, q) := by rw [← h]; simp [hx]
        cases h'
        refine ⟨by rw [hx]; rfl, fun z => ?_⟩
        obtain ⟨a, b, eab⟩ := List.append_of_mem z
        -- the last c of r
        have key : ∀ l : List Nat, c ∈ l → rcut c l ≠ none := by
          intro l
          induction l with
          | nil => intro z; cases z
          | cons y l ih =>
            intro z w
            unfold rcut at w
            cases e2 : rcut c l with
            | some k => rw [e2] at w; cases w
            | none =>
              rw [e2] at w
              rcases List.mem_cons.mp z with rfl | z
              · simp at w
              · exact ih z e2
        exact key r z e
      · simp [hx] at h
theorem rcut_nin {c : Nat} : ∀ {l : List Nat}, rcut c l = none → c ∉ l := by
  intro l
  induction l with
  | nil => intro _ z; cases z
  | cons y l ih =>
    intro w z
    unfold rcut at w
    cases e2 : rcut c l with
    | some k => rw [e2] at w; cases w
    | none =>
      rw [e2] at w
      rcases List.mem_cons.mp z with rfl | z
      · simp at w
      · exact ih e2 z
theorem rpartition_S (a : List Nat) (c : Nat) : Txt.rpartition (SX.S a) (SX.S [c]) = match rcut c a with
    | some (p, q) => (SX.S p, SX.S [c], SX.S q)
    | none => (SX.S [], SX.S [], SX.S a) := by
  have hy : tl (SX.S [c]) ≠ [] := by simp
  have pr : ∀ i, pre (tl (SX.S [c])) ((tl (SX.S a)).drop i) = true ↔ a[i]? = some c := fun i => by
    show ((a.drop i).take 1 == [c]) = true ↔ _
    rw [beq_iff_eq]
    by_cases hi : i < a.length
    · have e1 : a.drop i = a[i] :: a.drop (i + 1) := List.drop_eq_getElem_cons hi
      rw [e1, List.getElem?_eq_getElem hi, List.take_succ_cons, List.take_zero]
      constructor
      · intro z
        injection z with z1
        rw [z1]
      · intro z
        injection z with z1
        rw [z1]
    · rw [List.drop_eq_nil_of_le (by omega), List.getElem?_eq_none (by omega)]
      simp
  unfold Txt.rpartition
  rcases StrLaws.last_spec (SX.S a) (SX.S [c]) with ⟨e, h⟩ | ⟨i, e, h, k⟩
  · rw [e]
    have hn : c ∉ a := fun z => by
      obtain ⟨i, hi, hc⟩ := List.getElem_of_mem z
      exact h i ((at_iff hy i).mpr ((pr i).mpr (by rw [List.getElem?_eq_getElem hi, hc])))
    rw [rcut_none hn]
    rfl
  · rw [e]
    have hi := (pr i).mp ((at_iff hy i).mp h)
    obtain ⟨lt, hc⟩ := List.getElem?_eq_some_iff.mp hi
    have hq : c ∉ a.drop (i + 1) := fun z => by
      obtain ⟨j, hj, hcj⟩ := List.getElem_of_mem z
      rw [List.length_drop] at hj
      refine k (i + 1 + j) (by omega) ((at_iff hy _).mpr ((pr _).mpr ?_))
      rw [List.getElem_drop] at hcj
      rw [List.getElem?_eq_getElem (by omega), hcj]
    have ea : a = a.take i ++ c :: a.drop (i + 1) := by
      rw [← hc, List.getElem_cons_drop, List.take_append_drop]
    have er : rcut c a = some (a.take i, a.drop (i + 1)) := by
      conv => lhs; rw [ea]
      exact rcut_some _ hq
    rw [er]
    show (Builtin.Str.strSub (SX.S a) 0 i, SX.S [c], Builtin.Str.strSub (SX.S a) (i + (SX.S [c]).length) (SX.S a).length) = (SX.S (a.take i), SX.S [c], SX.S (a.drop (i + 1)))
    have e1 : Builtin.Str.strSub (SX.S a) 0 i = SX.S (a.take i) := ext_tl (by rw [tl_strSub]; simp)
    have e2 : Builtin.Str.strSub (SX.S a) (i + (SX.S [c]).length) (SX.S a).length = SX.S (a.drop (i + 1)) := ext_tl (by rw [tl_strSub_end]; simp [SX.S_len])
    rw [e1, e2]
theorem pre1 (c x : Nat) (r : List Nat) : pre [c] (x :: r) = decide (x = c) := by
  show ([x] == [c]) = decide (x = c)
  by_cases h : x = c
  · rw [h, decide_eq_true rfl]
    simp
  · rw [decide_eq_false h]
    simpa using h
theorem par_is {c : Nat} : ∀ {l acc p q : List Nat}, par [c] acc l = some (p, q) → ∃ p', p = acc ++ p' ∧ l = p' ++ c :: q ∧ c ∉ p'
  | [], _, _, _, h => by cases h
  | x :: r, acc, p, q, h => by
    by_cases hx : x = c
    · have e : pre [c] (x :: r) = true := by rw [pre1, decide_eq_true hx]
      rw [par_hit e] at h
      cases h
      exact ⟨[], by simp, by rw [hx]; rfl, by simp⟩
    · have e : pre [c] (x :: r) = false := by rw [pre1, decide_eq_false hx]
      rw [par_miss e] at h
      obtain ⟨p', e1, e2, e3⟩ := par_is h
      refine ⟨x :: p', by rw [e1]; simp, by rw [e2]; rfl, fun z => ?_⟩
      rcases List.mem_cons.mp z with z | z
      · exact hx z.symm
      · exact e3 z
theorem par_nin {c : Nat} : ∀ {l acc : List Nat}, par [c] acc l = none → c ∉ l
  | [], _, _ => by simp
  | x :: r, acc, h => by
    by_cases hx : x = c
    · have e : pre [c] (x :: r) = true := by rw [pre1, decide_eq_true hx]
      rw [par_hit e] at h
      cases h
    · have e : pre [c] (x :: r) = false := by rw [pre1, decide_eq_false hx]
      rw [par_miss e] at h
      intro z
      rcases List.mem_cons.mp z with z | z
      · exact hx z.symm
      · exact par_nin h z
def two (m : Nat) : List Nat := [48 + m / 10, 48 + m % 10]
def clk (m : Nat) : List Nat := numL (m % 1440 / 60) ++ 58 :: two (m % 60)
def shw (m : Nat) : List Nat := if m / 1440 = 0 then clk m else numL (m / 1440) ++ 32 :: clk m
def dayOf (l : List Nat) : Option Nat := match num? l with
  | some 0 => none
  | o => o
def clkOf (l : List Nat) : Option Nat := match par [58] [] l with
  | none => none
  | some (h, m) => if decide (m.length = 2) && figs m then (match num? h with
    | some k => if k < 24 ∧ val m < 60 then some (k * 60 + val m) else none
    | none => none) else none
def momOf (l : List Nat) : Option Nat := match rcut 32 l with
  | none => clkOf l
  | some (h, t) => match dayOf h with
    | none => none
    | some d => (clkOf t).map fun m => d * 1440 + m
theorem two_val {m : Nat} (h : m < 60) : figs (two m) = true ∧ val (two m) = m := by
  have all : ∀ m, m < 60 → (figs (two m) && decide (val (two m) = m)) = true := by decide +kernel
  have z := all m h
  rw [Bool.and_eq_true, decide_eq_true_eq] at z
  exact z
theorem clkOf_clk (m : Nat) : clkOf (clk m) = some (m % 1440) := by
  unfold clkOf clk
  have e := SX.par_head (c := 58) (sep := []) (two (m % 60)) (p := numL (m % 1440 / 60)) (numL_free (.inr (by decide)))
  rw [show numL (m % 1440 / 60) ++ 58 :: two (m % 60) = numL (m % 1440 / 60) ++ ([58] ++ two (m % 60)) from rfl]
  rw [show par [58] [] (numL (m % 1440 / 60) ++ ([58] ++ two (m % 60))) = some (numL (m % 1440 / 60), two (m % 60)) from e]
  obtain ⟨h1, h2⟩ := two_val (show m % 60 < 60 by omega)
  show (if decide ((two (m % 60)).length = 2) && figs (two (m % 60)) then _ else none) = _
  rw [h1, num_num, h2]
  have : m % 1440 / 60 < 24 ∧ m % 60 < 60 := by omega
  simp only [this, and_self, if_true, two]
  simp
  omega
theorem clk_free (m : Nat) : 32 ∉ clk m := by
  unfold clk
  intro z
  rcases List.mem_append.mp z with z | z
  · exact numL_free (.inl (by decide)) z
  · simp only [two, List.mem_cons, List.not_mem_nil, or_false] at z
    omega
theorem momOf_shw (m : Nat) : momOf (shw m) = some m := by
  unfold momOf shw
  by_cases h : m / 1440 = 0
  · rw [if_pos h, rcut_none (clk_free m), clkOf_clk]
    simp
    omega
  · rw [if_neg h, rcut_some _ (clk_free m)]
    have e : dayOf (numL (m / 1440)) = some (m / 1440) := by
      unfold dayOf
      rw [num_num]
      cases k : m / 1440 with
      | zero => exact absurd k h
      | succ j => rfl
    simp only [e, clkOf_clk]
    simp
    omega
theorem shw_len {m k : Nat} (hk : 0 < k) (h : m < 10 ^ k) : (shw m).length ≤ k + 8 := by
  have h1 : (numL (m % 1440 / 60)).length ≤ 2 := numL_len (by decide) (by omega)
  have h2 : (numL (m / 1440)).length ≤ k := numL_len hk (Nat.lt_of_le_of_lt (Nat.div_le_self _ _) h)
  unfold shw clk two
  split <;> simp <;> omega
end Mo
namespace Mo
open PySem TL L2
theorem cut_to (l : List Nat) (k : Nat) : cutS (SX.S l) none (some (k : Int)) = SX.S (l.take k) := by
  unfold cutS
  rw [HT.sIx_nat, HT.sIx_none]
  refine ext_tl ?_
  show (l.drop 0).take (min k (SX.S l).length - 0) = l.take k
  rw [SX.S_len, List.drop_zero, Nat.sub_zero, List.take_eq_take_iff]
  omega
theorem cut_from (l : List Nat) (k : Nat) : cutS (SX.S l) (some (k : Int)) none = SX.S (l.drop k) := by
  unfold cutS
  rw [HT.sIx_nat, HT.sIx_none]
  refine ext_tl ?_
  show (l.drop (min k (SX.S l).length)).take ((SX.S l).length - min k (SX.S l).length) = l.drop k
  rw [SX.S_len]
  by_cases h : k ≤ l.length
  · rw [Nat.min_eq_left h]
    exact List.take_of_length_le (by rw [List.length_drop]; omega)
  · rw [Nat.min_eq_right (by omega), List.drop_eq_nil_of_le (Nat.le_refl _), List.drop_eq_nil_of_le (by omega)]
    simp
theorem cut_mid (l : List Nat) (i j : Nat) : cutS (SX.S l) (some (i : Int)) (some (j : Int)) = SX.S ((l.drop i).take (j - i)) := by
  unfold cutS
  rw [HT.sIx_nat, HT.sIx_nat]
  refine ext_tl ?_
  show (l.drop (min i (SX.S l).length)).take (min j (SX.S l).length - min i (SX.S l).length) = (l.drop i).take (j - i)
  rw [SX.S_len]
  by_cases h : i ≤ l.length
  · rw [Nat.min_eq_left h, List.take_eq_take_iff, List.length_drop]
    omega
  · rw [Nat.min_eq_right (by omega : l.length ≤ i), List.drop_eq_nil_of_le (Nat.le_refl _), List.drop_eq_nil_of_le (by omega : l.length ≤ i)]
    simp
end Mo
namespace Mo
open PySem TL L2
theorem spl_ne (S : List Nat) : ∀ (k : Nat) (acc l : List Nat), spl S k acc l ≠ []
  | k, acc, [] => by rw [spl_nil]; simp
  | 0, acc, c :: r => by
    unfold spl
    split
    · simp
    · exact spl_ne S 0 _ r
  | k + 1, acc, c :: r => by
    unfold spl
    exact spl_ne S k acc r
theorem first_of {c : Nat} : ∀ {l : List Nat}, c ∈ l → ∃ p q, l = p ++ c :: q ∧ c ∉ p
  | x :: r, h => by
    by_cases hx : x = c
    · exact ⟨[], r, by rw [hx]; rfl, by simp⟩
    · rcases List.mem_cons.mp h with h | h
      · exact absurd h.symm hx
      · obtain ⟨p, q, e, n⟩ := first_of h
        refine ⟨x :: p, q, by rw [e]; rfl, fun z => ?_⟩
        rcases List.mem_cons.mp z with z | z
        · exact hx z.symm
        · exact n z
theorem spl_cut {c : Nat} {p : List Nat} (q : List Nat) (h : c ∉ p) : spl [c] 0 [] (p ++ c :: q) = p :: spl [c] 0 [] q := by
  have e := spl_part1 (s := c) (S := []) (rest := q) (acc := []) h
  simpa using e
theorem spl_one {c : Nat} {p : List Nat} (h : c ∉ p) : spl [c] 0 [] p = [p] := by
  have e := spl_last1 (s := c) (S := []) (acc := []) h
  simpa using e
theorem spl_two {c : Nat} {l : List Nat} (h : c ∈ l) : 2 ≤ (spl [c] 0 [] l).length := by
  obtain ⟨p, q, rfl, n⟩ := first_of h
  rw [spl_cut q n]
  have := spl_ne [c] 0 [] q
  cases e : spl [c] 0 [] q with
  | nil => exact absurd e this
  | cons a r => simp
theorem spl_le (c : Nat) : ∀ (n : Nat) (l : List Nat), l.length ≤ n → (∀ p ∈ spl [c] 0 [] l, p.length ≤ l.length) ∧ (spl [c] 0 [] l).length ≤ l.length + 1
  | n, l, hn => by
    by_cases h : c ∈ l
    · obtain ⟨p, q, rfl, np⟩ := first_of h
      cases n with
      | zero => simp at hn
      | succ m =>
        have ih := spl_le c m q (by simp at hn; omega)
        rw [spl_cut q np]
        refine ⟨fun x hx => ?_, ?_⟩
        · rcases List.mem_cons.mp hx with rfl | hx
          · simp
          · have := ih.1 x hx
            simp
            omega
        · have := ih.2
          simp
          omega
    · rw [spl_one h]
      simp
/-- the words of a text, by its last blank -/
theorem words_of (l : List Nat) : (rcut 32 l = none ∧ spl [32] 0 [] l = [l]) ∨ (∃ h t, rcut 32 l = some (h, t) ∧ spl [32] 0 [] l = [h, t]) ∨ (momOf l = none ∧ 2 < (spl [32] 0 [] l).length) := by
  cases e : rcut 32 l with
  | none => exact .inl ⟨rfl, spl_one (rcut_nin e)⟩
  | some z =>
    obtain ⟨h, t⟩ := z
    obtain ⟨el, nt⟩ := rcut_is e
    by_cases hb : 32 ∈ h
    · refine .inr (.inr ⟨?_, ?_⟩)
      · unfold momOf
        rw [e]
        have : dayOf h = none := by
          have hf : figs h = false := by
            cases f : figs h with
            | false => rfl
            | true =>
              have := (figs_iff.mp f).2 32 hb
              omega
          unfold dayOf num?
          rw [hf]
          rfl
        simp only [this]
      · obtain ⟨p, q, eh, np⟩ := first_of hb
        rw [el, eh, List.append_assoc]
        show 2 < (spl [32] 0 [] (p ++ 32 :: (q ++ 32 :: t))).length
        rw [spl_cut _ np]
        have := spl_two (c := 32) (l := q ++ 32 :: t) (by simp)
        simp
        omega
    · refine .inr (.inl ⟨h, t, rfl, ?_⟩)
      rw [el, spl_cut t hb, spl_one nt]
theorem parts_of (u : List Nat) : (∃ h m, spl [58] 0 [] u = [h, m] ∧ h.length + m.length < u.length ∧ clkOf u = if decide (m.length = 2) && figs m then (match num? h with
      | some k => if k < 24 ∧ val m < 60 then some (k * 60 + val m) else none
      | none => none) else none) ∨ (clkOf u = none ∧ (spl [58] 0 [] u).length ≠ 2) := by
  cases e : par [58] [] u with
  | none =>
    refine .inr ⟨by unfold clkOf; rw [e], ?_⟩
    rw [spl_one (par_nin e)]
    simp
  | some z =>
    obtain ⟨h, m⟩ := z
    obtain ⟨h', eh, eu, nh⟩ := par_is e
    have eh2 : h = h' := by rw [eh]; rfl
    subst eh2
    by_cases hm : 58 ∈ m
    · refine .inr ⟨?_, ?_⟩
      · unfold clkOf
        rw [e]
        have hf : figs m = false := by
          cases f : figs m with
          | false => rfl
          | true =>
            have := (figs_iff.mp f).2 58 hm
            omega
        simp only [hf, Bool.and_false]
        rfl
      · rw [eu, spl_cut m nh]
        have := spl_two hm
        simp
        omega
    · refine .inl ⟨h, m, ?_, by rw [eu]; simp, ?_⟩
      · rw [eu, spl_cut m nh, spl_one hm]
      · unfold clkOf
        rw [e]
end Mo
set_option Elab.async false
set_option linter.all false
set_option maxRecDepth 100000
set_option maxHeartbeats 4000000
namespace L3
open PySem PySem.Spec PyProof.Rows L2
def rIsA (K : PySem.W.Frag) (a : Addr) (cls : Value) (d : Option Addr) : List V → Hp → VK → Prop := fun xs H Q => ∃ (D : Addr) (c : V) (cv : Value) (b : Bool), cls = .ref D ∧ d = none ∧ ExcC K D ∧ xs = [.ref a, c] ∧ ClsV c cv ∧ PySem.W.kitOne K (.ref D) cv = some b ∧ Q (.bl b) H
def rIsAT (K : PySem.W.Frag) (a : Addr) (cls : Value) (d : Option Addr) : List V → Hp → VK → Prop := fun xs H Q => ∃ (D tp : Addr) (cs : List V) (us : List Value) (b : Bool), cls = .ref D ∧ d = none ∧ ExcC K D ∧ xs = [.ref a, .ref tp] ∧ H tp = some (.tup cs) ∧ Paired ClsV cs us ∧ PySem.W.kitAny K (.ref D) us = some b ∧ Q (.bl b) H
section
variable {X : Cx} {a : Addr} {cls : Value} {d : Option Addr} {oe : Obj} {pn : List (Addr × Obj)}
theorem suite_inst {pins : List (Addr × Obj)} {s : Shared} {σ : L2.St} {H : Hp} {D : Addr} (I : Inv (X.suite a ((a, oe) :: pn)) pins σ H s) (hz : Zc (.ref D) none oe) (hf : ∃ vs, oe.data = .fields vs) : PySem.W.InstAt s.heap a oe D none := by
  obtain ⟨hget, _⟩ := I.pin (a, oe) (List.mem_append.mpr (.inl List.mem_cons_self))
  obtain ⟨vs, hv⟩ := hf
  obtain ⟨oc, od, oda, osl⟩ := oe
  obtain ⟨h1, h2⟩ := hz
  dsimp only at h1 h2 hv
  subst h1 h2 hv
  exact ⟨hget, rfl, rfl, trivial⟩
theorem call_isA (hz : Zc cls d oe) (hf : ∃ vs, oe.data = .fields vs) : CallR (X.suite a ((a, oe) :: pn)) (.builtin "isinstance") (rIsA X.K a cls d) := by
  intro pins s σ H xs us Q I r h
  obtain ⟨D, c, cv, b, rfl, rfl, C, rfl, k, e, q⟩ := h
  obtain ⟨u1, u2, rfl, r1, r2⟩ := vals2 r
  have e2 := k.eq r2
  subst e2
  cases (show u1 = Value.ref a from r1)
  exact PySem.W.kia_one (PySem.W.handS_kitx_exc C.hg C.hk C.hs C.hd C.ha C.hn C.ht C.hm) I.kIn (suite_inst I hz hf) e (fun z => nomatch z) fun tk => ⟨.bl b, H, I.kept (t' := tk) fun _ _ z => z, rfl, q⟩
theorem call_isAT (hz : Zc cls d oe) (hf : ∃ vs, oe.data = .fields vs) : CallR (X.suite a ((a, oe) :: pn)) (.builtin "isinstance") (rIsAT X.K a cls d) := by
  intro pins s σ H xs us Q I r h
  obtain ⟨D, tp, cs, ws, b, rfl, rfl, C, rfl, hT, k, e, q⟩ := h
  obtain ⟨u1, u2, rfl, r1, r2⟩ := vals2 r
  cases (show u1 = Value.ref a from r1)
  cases (show u2 = Value.ref tp from r2)
  obtain ⟨_, its, rv, o, h1, h2, n, h3⟩ := (show ObjOk X.prog X.w H s.heap tp (.tup cs) from I.hok tp _ hT)
  have e3 := ClsV.all k rv
  subst e3
  obtain ⟨oc, od, dt, sl⟩ := o
  simp only at h2 h3
  subst h2 h3
  exact PySem.W.kia_tup (PySem.W.handS_kitx_exc C.hg C.hk C.hs C.hd C.ha C.hn C.ht C.hm) I.kIn (suite_inst I hz hf) h1 e (fun z => nomatch z) fun tk => ⟨.bl b, H, I.kept (t' := tk) fun _ _ z => z, rfl, q⟩
end
def excCB (x : Str) : Fx := fun K => He.eqO (PySem.W.findIn K (.ref (He.ga K x)) "__getattribute__") (some (some (.builtin "BaseException.__getattribute__"))) && (He.eqO (PySem.W.findIn K (.ref (He.ga K x)) "__getattr__") (some none) && (decide (PySem.W.subIn K (.ref (He.ga K x)) (.type "BaseException") = some true) && (PySem.W.hasDictIn K (He.ga K x) &&
  (He.eqO (PySem.W.findIn K (.ref (He.ga K x)) "__class__") (some (some (.builtin "object.__class__"))) && (He.eqO (PySem.W.specialIn K (.builtin "object.__class__") "__get__") (some (some (.builtin "getset_descriptor.__get__"))) && (decide (PySem.W.takesIn K (.builtin "object.__class__") = some true) && decide (PySem.W.mroIn K (He.ga K x) (.type "object") = some true)))))))
theorem excC_of {x : Str} {K : PySem.W.Frag} (h : excCB x K = true) : ExcC K (He.ga K x) := by
  obtain ⟨h1, h⟩ := He.ba h
  obtain ⟨h2, h⟩ := He.ba h
  obtain ⟨h3, h⟩ := He.ba h
  obtain ⟨h4, h⟩ := He.ba h
  obtain ⟨h5, h⟩ := He.ba h
  obtain ⟨h6, h⟩ := He.ba h
  obtain ⟨h7, h8⟩ := He.ba h
  exact ⟨He.eqO_ok h1, He.eqO_ok h2, of_decide_eq_true h3, h4, He.eqO_ok h5, He.eqO_ok h6, of_decide_eq_true h7, of_decide_eq_true h8⟩
def kitF (x y : Str) (b : Bool) : Fx := fun K => decide (PySem.W.kitOne K (.ref (He.ga K x)) (.ref (He.ga K y)) = some b)
def kitFT (x : Str) (y : String) (b : Bool) : Fx := fun K => decide (PySem.W.kitOne K (.ref (He.ga K x)) (.type y) = some b)
end L3
set_option Elab.async false
set_option linter.all false
set_option maxRecDepth 100000
set_option maxHeartbeats 4000000
namespace L3
open PySem PySem.Spec PyProof.Rows L2
def keyD : Key → PyData
  | .inl i => .int i
  | .inr x => .str x
def zipK : List (Key × V) → List PyData → List (PyData × PyData)
  | (k, _) :: r, d :: ds => (keyD k, d) :: zipK r ds
  | _, _ => []
inductive Dq (K : PySem.W.Frag) (H : Hp) : V → PyData → Prop
  | non : Dq K H .non .none
  | bl (b : Bool) : Dq K H (.bl b) (.bool b)
  | int (i : Int) : Dq K H (.int i) (.int i)
  | str (x : Str) : Dq K H (.str x) (.str x)
  | lst {a : Addr} {xs : List V} {ds : List PyData} : SqL K H a xs → xs.length = ds.length → (∀ (i : Nat) (x : V) (d : PyData), xs[i]? = some x → ds[i]? = some d → Dq K H x d) → Dq K H (.ref a) (.list ds)
  | tup {a : Addr} {xs : List V} {ds : List PyData} : SqT K H a xs → xs.length = ds.length → (∀ (i : Nat) (x : V) (d : PyData), xs[i]? = some x → ds[i]? = some d → Dq K H x d) → Dq K H (.ref a) (.tuple ds)
  | dct {a : Addr} {kvs : List (Key × V)} {ds : List PyData} : H a = some (.dK kvs) → kvs.length = ds.length → (∀ (i : Nat) (k : Key) (x : V) (d : PyData), kvs[i]? = some (k, x) → ds[i]? = some d → Dq K H x d) → Dq K H (.ref a) (.dict (zipK kvs ds))
theorem Dq.mono {K : PySem.W.Frag} {H H' : Hp} {x : V} {d : PyData} (e : Ex H H') (h : Dq K H x d) : Dq K H' x d := by
  induction h with
  | non => exact .non
  | bl b => exact .bl b
  | int i => exact .int i
  | str x => exact .str x
  | lst s l _ ih => exact .lst (ex_sql e s) l ih
  | tup s l _ ih => exact .tup (ex_sqt e s) l ih
  | dct s l _ ih => exact .dct (e _ _ s) l ih
theorem all_reads {h : Heap} : ∀ (xs : List V) (ds : List PyData) (us : List Value), xs.length = ds.length → Vals xs us → (∀ (i : Nat) (x : V) (d : PyData), xs[i]? = some x → ds[i]? = some d → ∀ u, RelV x u → ∃ as, Reads h u d as ∧ sysModules ∉ as) → ∃ as, ReadsAll h us ds as ∧ sysModules ∉ as
  | [], [], _, _, r, _ => by
    cases r
    exact ⟨_, .nil, by simp⟩
  | x :: xs, d :: ds, _, l, r, h => by
    cases r with
    | cons r1 r2 =>
      obtain ⟨as, q1, n1⟩ := h 0 x d rfl rfl _ r1
      obtain ⟨bs, q2, n2⟩ := all_reads xs ds _ (by simpa using l) r2 fun i y e h1 h2 => h (i + 1) y e (by simpa using h1) (by simpa using h2)
      refine ⟨_, .cons q1 q2, fun z => ?_⟩
      rcases List.mem_append.mp z with z | z
      · exact n1 z
      · exact n2 z
theorem key_reads {h : Heap} {k : Key} {v : Value} (e : keyIs k v = true) : Reads h v (keyD k) [] := by
  rcases keyIs_shape e with ⟨i, t, rfl, rfl⟩ | ⟨x, t, rfl, rfl⟩
  · exact .int i t
  · exact .str x t
theorem kv_reads {P : Program} {w : World} {h : Heap} : ∀ (kvs : List (Key × V)) (ds : List PyData) (es : List DictEntry) (vs : List (Key × Value)), kvs.length = ds.length → KV kvs vs → Pairs (mixKind P w) es vs →
    (∀ (i : Nat) (k : Key) (x : V) (d : PyData), kvs[i]? = some (k, x) → ds[i]? = some d → ∀ u, RelV x u → ∃ as, Reads h u d as ∧ sysModules ∉ as) →
    ReadsAll h (es.map (·.key)) ((zipK kvs ds).map (·.1)) [] ∧ ∃ bs, ReadsAll h (es.map (·.val)) ((zipK kvs ds).map (·.2)) bs ∧ sysModules ∉ bs
  | [], [], es, vs, _, r, p, _ => by
    cases r
    cases p
    exact ⟨.nil, _, .nil, by simp⟩
  | (k, x) :: kvs, d :: ds, es, vs, l, r, p, h => by
    cases r with
    | cons r1 r2 =>
      cases p with
      | cons p1 p2 p3 =>
        obtain ⟨as, q1, n1⟩ := h 0 k x d rfl rfl _ r1.2
        obtain ⟨h1, bs, q2, n2⟩ := kv_reads kvs ds _ _ (by simpa using l) r2 p3 fun i k' y e h1 h2 => h (i + 1) k' y e (by simpa using h1) (by simpa using h2)
        refine ⟨ReadsAll.cons (as := []) (bs := []) (key_reads (by have e : k = _ := r1.1; subst e; exact p1)) h1, as ++ bs, ReadsAll.cons (by rw [← p2] at q1; exact q1) q2, fun z => ?_⟩
        rcases List.mem_append.mp z with z | z
        · exact n1 z
        · exact n2 z
/-- the part that is written holds sys.modules: a dict -/
def SysK (K : PySem.W.Frag) : Prop := ∃ o, K.lookup sysModules = some o ∧ o.cls = .type "dict"
theorem Dq.reads {X : Cx} {pins : List (Addr × Obj)} {σ : L2.St} {H : Hp} {s : Shared} (I : Inv X pins σ H s) (S : SysK X.K) {x : V} {d : PyData} (h : Dq X.K H x d) : ∀ u, RelV x u → ∃ as, Reads s.heap u d as ∧ sysModules ∉ as := by
  obtain ⟨o1, k1, c1⟩ := S
  have g1 := I.kIn _ _ k1
  induction h with
  | non =>
    intro u r
    cases r
    exact ⟨_, .none, by simp⟩
  | bl b =>
    intro u r
    cases r
    exact ⟨_, .bool b, by simp⟩
  | int i =>
    rintro u ⟨t, rfl⟩
    exact ⟨_, .int i t, by simp⟩
  | str x =>
    rintro u ⟨t, rfl⟩
    exact ⟨_, .str x t, by simp⟩
  | @lst a xs ds hs l _ ih =>
    intro u r
    cases r
    obtain ⟨its, rv, ⟨o, n, ho, hc, _, hd⟩, _⟩ := I.list hs
    obtain ⟨as, hr, hn⟩ := all_reads xs ds its l rv ih
    refine ⟨_, .list ho hc hd hr, fun z => ?_⟩
    rcases List.mem_cons.mp z with z | z
    · rw [← z, g1] at ho
      cases ho
      rw [c1] at hc
      injection hc with z2
      exact absurd z2 (by decide)
    · exact hn z
  | @tup a xs ds hs l _ ih =>
    intro u r
    cases r
    obtain ⟨its, rv, ⟨o, ho, hc, n, hd⟩, _⟩ := I.tuple hs
    obtain ⟨as, hr, hn⟩ := all_reads xs ds its l rv ih
    exact ⟨_, .tuple ho hc hd hr, hn⟩
  | @dct a kvs ds hs l _ ih =>
    intro u r
    cases r
    obtain ⟨_, ns, vs, rk, o, es, ep, ho, ⟨hc, _, _⟩, hd, _, hp, _⟩ := dk_of I.hok hs
    obtain ⟨h1, bs, h2, hn⟩ := kv_reads kvs ds es.toList vs l rk hp ih
    refine ⟨_, .dict ho hc hd h1 h2, fun z => ?_⟩
    rcases List.mem_cons.mp z with z | z
    · rw [← z] at ns
      simp at ns
    · exact hn (by simpa using z)
end L3
set_option Elab.async false
set_option linter.all false
set_option maxRecDepth 100000
set_option maxHeartbeats 4000000
namespace L3
open PySem PySem.Spec PyProof.Rows L2
theorem Rm.in1 {k : Nat} {A : Around} (r : Rm (k + 1) A) : Rm k A.in1 := ⟨r.rm.in1, r.gd⟩
section
variable {X : Cx} {k : Nat} {f C : Addr} {ks : List Str} {sp : Sp} {W : WX} {x m : Str} {p pos apos : Pos} {e o : Expr} {es : List Expr} {kws : List Keyword} {ta : TE} {t tk : TA}
/-- a def that runs somewhere below the body -/
theorem run_fcA {A : Around} {pins : List (Addr × Obj)} {σ : L2.St} {H : Hp} {s : Shared} {Q : VK} {us ws : List Value} {vs : List V} (F : Fc X.prog X.w X.K X.mg X.base k f ks sp) (hr : Rm k A) (hf : A.frames = X.A.frames) (hx : Takes X W)
    (I : Inv X pins σ H s) (r : Vals vs (us ++ ws)) (hl : ws.length = ks.length) (h : sp vs H Q (WE W σ)) : wpAny (model X.prog X.w) A (call (.ref f) us (ks.zip ws)) (EP X pins σ Q) X.xe s := by
  have e0 : Env0 X.prog X.w X.K X.mg X.base A X.stack s H := by
    have e := I.env0
    exact ⟨by rw [hf]; exact e.frames, e.mod, e.bs, e.bsz, e.funs, e.frf, e.hok, e.bare⟩
  refine wpAny_call (codeAny_mono (F A X.stack s H us ws vs Q (WE W σ) hr e0 r hl h) fun r s' hq => ?_)
  cases r with
  | error e => exact passAt hx σ pins H s e s' I hq
  | ok fl =>
    cases fl with
    | ret u => exact I.after hq
    | next => exact False.elim hq
    | brk => exact False.elim hq
    | cont => exact False.elim hq
/-- o.m(e, ..) of an instance of the class at C -/
def tMt (C : Addr) (m : Str) (sp : Sp) (W : WX) (ta : TE) (t : TA) : TE := fun σ H Q => ta σ H fun x H1 => ∃ a dx fs, x = .ref a ∧ H1 a = some (.ins C dx fs) ∧ fs.lookup m = none ∧ t σ H1 fun vs H2 => sp (x :: vs) H2 Q (WE W σ)
theorem c_meth0 {pl : Sem Bool} (he : PE X o ta) (c : Cls X.K C) (hm : Meth X.K C m f) (F : Fc X.prog X.w X.K X.mg X.base k f [] sp) (hr : Rm k X.A) (hx : Takes X W)
    (ht : eval (.Call (.Attribute o m apos) [] [] pos) X.env = (do
      let ov ← eval o X.env
      standAt apos.atName
      let (f, first) ← holding [ov] (getMethod ov m pl)
      callWith pos f first (backTo pos (starEach [] X.env)) (backToKw pos (keywordEach [] X.env))) := by rfl) :
    PE X (.Call (.Attribute o m apos) [] [] pos) (tMt C m sp W ta tNil) := by
  refine ⟨fun pins s σ H Q I h => ?_⟩
  refine PySem.W.methodCall_KW (pl := pl) (thn (he.run pins s σ H _ I h) fun u s1 ⟨x, H1, I1, rx, a, dx, fs, ex, ea, l, q⟩ => ?_) ht
  subst ex
  obtain rfl : u = Value.ref a := rx
  refine getmeth_ok I1 ea c hm l ?_
  exact PySem.W.callWith_K0 (first := [.ref a]) I1.kIn hm.kp (run_fc (us := [.ref a]) (ws := []) (vs := [.ref a]) F hr hx I1 (.cons rfl .nil) rfl q)
theorem run_mk {pins : List (Addr × Obj)} {σ : L2.St} {H : Hp} {s : Shared} {Q : VK} {us ws : List Value} {vs : List V} (M : Mk X.K C f) (F : Fc X.prog X.w X.K X.mg X.base k f ks sp) (hr : Rm (k + 1) X.A) (hx : Takes X W)
    (I : Inv X pins σ H s) (r : Vals vs (us ++ ws)) (hl : ws.length = ks.length)
    (h : ∀ x dx, H x = none → H dx = none → dx ≠ x → sp (.ref x :: vs) (upd (upd H dx (.own x)) x (.ins C dx [])) (fun v H2 => v = .non ∧ Q (.ref x) H2) (WE W σ)) :
    wpAny (model X.prog X.w) X.A (call (.ref C) us (ks.zip ws)) (EP X pins σ Q) X.xe s := by
  have hq := h (s.heap.objs.size + 1) s.heap.objs.size (I.hok.fresh (Nat.le_succ _)) (I.hok.fresh (Nat.le_refl _)) (Nat.ne_of_lt (Nat.lt_succ_self _))
  have I2 := Inv.made (C := C) I
  refine wpAny_call (make_map (f := f) I.kIn M.makes M.init (beq_iff_eq.mp M.fn) (codeAny_mono (F _ X.stack _ _ (Value.ref (s.heap.objs.size + 1) :: us) ws (V.ref (s.heap.objs.size + 1) :: vs) _ (WE W σ) (hr.make C us (ks.zip ws))
    (I2.env0.make C us (ks.zip ws)) (.cons rfl r) hl hq) fun r s' hq' => ?_))
  cases r with
  | error e => exact passAt hx σ pins _ _ e s' I2 hq'
  | ok fl =>
    cases fl with
    | ret u =>
      obtain ⟨v, H', I3, rv, ev, q3⟩ := I2.after hq'
      subst ev
      exact ⟨rv, ⟨V.ref (s.heap.objs.size + 1), H', I3, rfl, q3⟩⟩
    | next => exact False.elim hq'
    | brk => exact False.elim hq'
    | cont => exact False.elim hq'
def tMk (C : Addr) (sp : Sp) (W : WX) (t : TA) : TE := fun σ H Q => t σ H fun vs H1 => ∀ x dx, H1 x = none → H1 dx = none → dx ≠ x →
  sp (.ref x :: vs) (upd (upd H1 dx (.own x)) x (.ins C dx [])) (fun v H2 => v = .non ∧ Q (.ref x) H2) (WE W σ)
theorem c_make (M : Mk X.K C f) (F : Fc X.prog X.w X.K X.mg X.base k f [] sp) (hr : Rm (k + 1) X.A) (hm : X.mg x = some (.ref C)) (hx : Takes X W)
    (ha : PA X (e :: es) t) (hg : Gl X x := by rfl) (hdb : (x == ("__debug__" : Str)) = false := by decide) (he : starEach (e :: es) X.env = (false, eval e X.env) :: starEach es X.env := by rfl) (hpl : (backTo pos (starEach es X.env)).any (·.1) = false := by rfl) :
    PE X (.Call (.Name x p) (e :: es) [] pos) (tMk C sp W t) := by
  refine ⟨fun pins s σ H Q I h => ?_⟩
  refine wpAny_Call_Name_kw (ld_glob I hg hm ?_ hdb)
  refine PySem.W.callWith_K (h₀ := X.base) I.ok.mod.kin M.kp (thn (ha.run pos pins s σ H _ I h) fun us s1 ⟨vs, H1, I1, r, q⟩ => ⟨I1.kIn, ?_⟩) he hpl
  exact run_mk (ws := []) M F hr hx I1 (by rw [List.append_nil]; exact r) rfl q
/-- xs is one instance of C; the promise of its method, at it -/
def rOwn (C : Addr) (sp : Sp) (G : V → Prop) : List V → Hp → VK → Prop := fun xs H Q => ∃ a dx fs, xs = [.ref a] ∧ H a = some (.ins C dx fs) ∧ sp [.ref a] H (fun v H' => G v ∧ Q v H') (fun _ _ _ => False)
def isTxt : V → Prop
  | .str _ => True
  | _ => False
end
section
variable {X : Cx} {k : Nat} {f C : Addr} {sp : Sp}
theorem call_strO (hm : Meth X.K C "__str__" f) (F : Fc X.prog X.w X.K X.mg X.base k f [] sp) (hr : Rm (k + 2) X.A) :
    CallR X (.type "str") (rOwn C sp isTxt) := by
  intro pins s σ H xs us Q I r h
  obtain ⟨a, dx, fs, rfl, ha, hsp⟩ := h
  obtain ⟨u, rfl, ru⟩ := vals1 r
  obtain rfl : u = Value.ref a := ru
  obtain ⟨mA, J, _⟩ := ins_get I.hok ha
  obtain ⟨od, J, _⟩ := J.look
  have run := run_fcA (A := X.A.in1.in1) (W := fun _ _ _ _ => False) (us := [.ref a]) (ws := []) (vs := [.ref a]) (σ := σ) F hr.in1.in1 rfl takes0 I (.cons rfl .nil) rfl hsp
  refine PySem.W.kso_call (by have := hr.in1.in1.rm.un; omega) I.kIn J hm.at_ hm.fn (wpAny_mono run (fun v s' hv => ?_) fun _ _ y => y)
  obtain ⟨z, H', I', rz, gz, q⟩ := hv
  cases z with
  | str y =>
    obtain ⟨t, rfl⟩ := rz
    exact ⟨.str y, H', I', ⟨t, rfl⟩, q⟩
  | _ => exact gz.elim
end
structure InsC (K : PySem.W.Frag) (C : Addr) : Prop where
  ha : PySem.W.findIn K (.ref C) "__class__" = some (some (.builtin "object.__class__"))
  hn : PySem.W.specialIn K (.builtin "object.__class__") "__get__" = some (some (.builtin "getset_descriptor.__get__"))
  ht : PySem.W.takesIn K (.builtin "object.__class__") = some true
  hm : PySem.W.mroIn K C (.type "object") = some true
def insB (x : Str) : Fx := fun K => He.eqO (PySem.W.findIn K (.ref (He.ga K x)) "__class__") (some (some (.builtin "object.__class__"))) && (He.eqO (PySem.W.specialIn K (.builtin "object.__class__") "__get__") (some (some (.builtin "getset_descriptor.__get__"))) &&
  (decide (PySem.W.takesIn K (.builtin "object.__class__") = some true) && decide (PySem.W.mroIn K (He.ga K x) (.type "object") = some true)))
theorem insC_of {x : Str} {K : PySem.W.Frag} (h : insB x K = true) : InsC K (He.ga K x) := by
  obtain ⟨h1, h⟩ := He.ba h
  obtain ⟨h2, h⟩ := He.ba h
  obtain ⟨h3, h4⟩ := He.ba h
  exact ⟨He.eqO_ok h1, He.eqO_ok h2, of_decide_eq_true h3, of_decide_eq_true h4⟩
theorem ty_ins {K : PySem.W.Frag} {H : Hp} {a C dx : Addr} {fs : List (Str × V)} (i : InsC K C) (c : Cls K C) (e : H a = some (.ins C dx fs)) : TyX K H (.ref a) (.ref C) := .base (.ins e c i.ha i.hn i.ht i.hm)
def exm1F (x y : Str) (b : Bool) : Fx := fun K => decide (PySem.W.exmOne K (.ref (He.ga K x)) (.ref (He.ga K y)) = some b)
section
variable {X : Cx} {K : PySem.W.Frag}
theorem ix_listK (K : PySem.W.Frag) (h : X.K = K := by rfl) : IxR X (rIxL K) := h ▸ ix_list
theorem ix_tupK (K : PySem.W.Frag) (h : X.K = K := by rfl) : IxR X (rIxT K) := h ▸ ix_tup
theorem pe_fldK (K : PySem.W.Frag) {e : Expr} {f : Str} {pos : Pos} {ta : TE} (he : PE X e ta) (hb : attributeBase e f X.env (eval e X.env) = eval e X.env) (h : X.K = K := by rfl) : PE X (.Attribute e f pos) (tFld K ta f) := h ▸ pe_fld he hb
end
end L3
set_option Elab.async false
set_option linter.all false
set_option maxRecDepth 100000
set_option maxHeartbeats 4000000
namespace L3
open PySem PySem.Spec PyProof.Rows L2
section
variable {J : It} {n : Nat} {G : Hp → Prop} {Y : Nat → Hp → V → Hp → Prop} {g : TG} {tt : TT} {te : TE} {vs : List Nat} {σ : L2.St} {H1 : Hp} {D : Addr} {Qd : Hp → Prop}
theorem lc_any (w : L2.Walk J n G Y) (I : Nat → List V → Hp → Prop) (hI : ∀ i acc H l, I i acc H → I i acc (upd H D (.lst l))) (i0 : I 0 [] H1) (hn : n ≤ 100000) (hl : ∀ i acc H, I i acc H → acc.length ≤ i) (hG : ∀ i acc H, I i acc H → G H)
    (hs : ∀ (i : Nat) (x : V) (H H' : Hp) (acc : List V) (N : Hp → Prop), i < n → I i acc H → H D = some (.lst acc) → acc.length < sizeLine → Y i H x H' →
      (∀ y H4, H4 D = some (.lst acc) → I (i + 1) (acc ++ [y]) H4 → N (upd H4 D (.lst (acc ++ [y])))) → (∀ H4, H4 D = some (.lst acc) → I (i + 1) acc H4 → N H4) → Turn g tt te vs σ D x H' N)
    (hd : ∀ acc H, I n acc H → H D = some (.lst acc) → Qd H) :
    ∃ W : Nat → Nat → Hp → Prop, (∃ m, W 0 m (upd H1 D (.lst []))) ∧ ∀ i m H, W i m H →
      (J.stop i H ∧ Qd H) ∨ (J.go i H ∧ ∃ Nx : Hp → Prop, (∀ H', Nx H' → ∃ m', m' < m ∧ W (i + 1) m' H') ∧ ∀ x H', J.yld i H x H' → Turn g tt te vs σ D x H' Nx) := by
  refine L2.lc_it w (fun i H => i ≤ n ∧ ∃ acc, I i acc H ∧ H D = some (.lst acc)) ⟨Nat.zero_le _, [], hI _ _ _ _ i0, upd_same⟩ (fun i H _ p => ?_) ?_ (fun H p => ?_)
  · obtain ⟨_, acc, p, _⟩ := p
    exact hG i acc H p
  · rintro i x H H' hi ⟨p1, acc, p2, p3⟩ y
    have := hl _ _ _ p2
    refine hs i x H H' acc _ hi p2 p3 (small_len (by omega)) y (fun y H4 d4 i4 => ⟨hi, _, hI _ _ _ _ i4, upd_same⟩) fun H4 d4 i4 => ⟨hi, _, i4, d4⟩
  · obtain ⟨_, acc, p, d⟩ := p
    exact hd acc H p d
end
end L3
set_option Elab.async false
set_option linter.all false
set_option maxRecDepth 100000
set_option maxHeartbeats 4000000
namespace L3
open PySem PySem.Spec PyProof.Rows L2
/-- the numbers in order -/
def srt (ns : List Int) : List Int := ns.mergeSort (fun a b => decide (a ≤ b))
section
variable {X : Cx} {K : PySem.W.Frag}
def iSeq (K : PySem.W.Frag) (tl : TE) : TI := fun σ H R => iList K tl σ H R ∨ iTup K tl σ H R
theorem pi_seq {tg l : Expr} {tl : TE} (hl : PE X l tl) : PI X tg l (iSeq X.K tl) := ⟨fun pins s σ H R I h => h.elim ((pi_list hl).run pins s σ H R I) ((pi_tup hl).run pins s σ H R I)⟩
theorem pg_tupK (K : PySem.W.Frag) {es : List Expr} {k : Nat} {t : TGs} {n : Nat} {pos : Pos} (hc : X.calm = true) (h : PGs X es t)
    (hn : (assignEach es X.env).length = n := by rfl) (hst : (assignEach es X.env).findIdx? (·.1) = none := by rfl) (hK : X.K = K := by rfl) : PG X (.Tuple es k pos) (gTup K n t) := hK ▸ pg_tup hc h hn hst
theorem walk_zipT {a b : Addr} {xs ys : List V} {n : Nat} (hn : n = min xs.length ys.length) : L2.Walk (RZ.ItzT K a b) n (fun H => SqT K H a xs ∧ SqT K H b ys) (L2.YPair (fun i => xs[i]?) (fun i => ys[i]?)) := by
  subst hn
  refine ⟨fun i _ hi q => ?_, fun _ q => ⟨xs, ys, q.1, q.2, by omega⟩, fun i H v H' _ q y => ?_⟩
  · have h1 : i < xs.length := by omega
    have h2 : i < ys.length := by omega
    exact ⟨xs, ys, xs[i], ys[i], q.1, q.2, by simp [h1], by simp [h2]⟩
  · obtain ⟨T, x, z, h1, h2, h3, h4, h5⟩ := y
    exact ⟨T, x, z, h1, h2, h3, h4 xs q.1, h5 ys q.2⟩
end
end L3
set_option Elab.async false
set_option linter.all false
set_option maxRecDepth 100000
set_option maxHeartbeats 4000000
namespace L3
open PySem PySem.Spec PyProof.Rows L2
end L3
set_option Elab.async false
set_option linter.all false
set_option maxRecDepth 100000
set_option maxHeartbeats 4000000
namespace L3
open PySem PySem.Spec PyProof.Rows L2
end L3
set_option Elab.async false
set_option linter.all false
set_option maxRecDepth 100000
set_option maxHeartbeats 4000000
namespace L3
open PySem PySem.Spec PyProof.Rows L2
end L3
set_option Elab.async false
set_option linter.all false
set_option maxRecDepth 100000
set_option maxHeartbeats 4000000
namespace L3
open PySem PySem.Spec PyProof.Rows L2
theorem range_fm {α β : Type} (g : α → Option β) : ∀ l : List α, (List.range l.length).filterMap (fun i => l[i]?.bind g) = l.filterMap g
  | [] => rfl
  | x :: l => by
    rw [List.length_cons, List.range_succ_eq_map, List.filterMap_cons, List.filterMap_map, List.filterMap_cons]
    have ih := range_fm g l
    have e : ((fun i => (x :: l)[i]?.bind g) ∘ Nat.succ) = fun i => l[i]?.bind g := funext fun i => by simp
    rw [e, ih]
    simp
section
variable {J : It} {G : Hp → Prop} {g : TG} {tt : TT} {te : TE} {vs : List Nat} {σ : L2.St} {H1 : Hp} {D : Addr} {Qd : Hp → Prop}
/-- a comprehension over xs (told as values by v), each of which gives gm x, or nothing -/
theorem lc_on {α : Type} (xs : List α) (v : α → V) (w : L2.Walk J (xs.map v).length G (L2.YAt (xs.map v))) (gm : α → Option V) (I : Hp → Prop) (hI : ∀ H l, I H → I (upd H D (.lst l))) (i0 : I H1) (hn : xs.length ≤ 100000) (hG : ∀ H, I H → G H)
    (hs : ∀ (i : Nat) (x : α) (H : Hp) (acc : List V) (N : Hp → Prop), xs[i]? = some x → I H → H D = some (.lst acc) → acc.length < sizeLine →
      (∀ H4, I H4 → H4 D = some (.lst acc) → match gm x with | some y => N (upd H4 D (.lst (acc ++ [y]))) | none => N H4) → Turn g tt te vs σ D (v x) H N)
    (hd : ∀ H, I H → H D = some (.lst (xs.filterMap gm)) → Qd H) :
    ∃ W : Nat → Nat → Hp → Prop, (∃ m, W 0 m (upd H1 D (.lst []))) ∧ ∀ i m H, W i m H →
      (J.stop i H ∧ Qd H) ∨ (J.go i H ∧ ∃ Nx : Hp → Prop, (∀ H', Nx H' → ∃ m', m' < m ∧ W (i + 1) m' H') ∧ ∀ x H', J.yld i H x H' → Turn g tt te vs σ D x H' Nx) := by
  refine lc_fm w (fun i => xs[i]?.bind gm) I hI i0 (by rw [List.length_map]; exact hn) hG (fun i x H H' acc N hi p hD la y k => ?_) fun H p hD => hd H p ?_
  · obtain ⟨rfl, hx⟩ := y
    rw [List.getElem?_map] at hx
    obtain ⟨z, hz, rfl⟩ := Option.map_eq_some_iff.mp hx
    refine hs i z _ acc N hz p hD la fun H4 p4 d4 => ?_
    have := k H4 p4 d4
    simp only [hz, Option.bind_some] at this
    exact this
  · rw [hD, List.length_map, range_fm]
end
section
variable {J : It} {G : Hp → Prop} {g : TG} {tb : TS} {D : Ends} {σ : L2.St} {H : Hp}
/-- a for over xs (told as values by v) -/
theorem for_on {α : Type} (xs : List α) (v : α → V) (w : L2.Walk J (xs.map v).length G (L2.YAt (xs.map v))) (Pv : Nat → L2.St → Hp → Prop) (h0 : Pv 0 σ H) (hG : ∀ i σ H, Pv i σ H → G H)
    (hs : ∀ (i : Nat) (x : α) (σ : L2.St) (H : Hp), xs[i]? = some x → Pv i σ H → g (v x) σ H fun σ2 H2 => tb { D with nx := Pv (i + 1), ct := Pv (i + 1), bk := D.nx } σ2 H2) (hd : ∀ σ H, Pv xs.length σ H → D.nx σ H) :
    ∃ W : Nat → Nat → L2.St → Hp → Prop, (∃ m, W 0 m σ H) ∧ ∀ i m σ H, W i m σ H →
      (J.stop i H ∧ D.nx σ H) ∨ (J.go i H ∧ ∃ N : L2.St → Hp → Prop, (∀ σ' H', N σ' H' → ∃ m', m' < m ∧ W (i + 1) m' σ' H') ∧ ∀ x H', J.yld i H x H' → g x σ H' fun σ2 H2 => tb { D with nx := N, ct := N, bk := D.nx } σ2 H2) := by
  refine L2.for_it w Pv h0 (fun i σ H _ p => hG i σ H p) (fun i x σ H H' hi p y => ?_) (fun σ H p => hd σ H (by rw [List.length_map] at p; exact p))
  obtain ⟨rfl, hx⟩ := y
  rw [List.getElem?_map] at hx
  obtain ⟨z, hz, rfl⟩ := Option.map_eq_some_iff.mp hx
  exact hs i z σ _ hz p
end
theorem take_snoc {α : Type} {l : List α} {i : Nat} {x : α} (h : l[i]? = some x) : l.take (i + 1) = l.take i ++ [x] := by
  rw [List.take_add_one, h]
  rfl
/-- what stands elsewhere than at f stays -/
def Oth (f : Addr) (H H' : Hp) : Prop := ∀ b o, b ≠ f → H b = some o → H' b = some o
theorem Oth.refl (f : Addr) (H : Hp) : Oth f H H := fun _ _ _ e => e
theorem Oth.trans {f : Addr} {H H1 H2 : Hp} (a : Oth f H H1) (b : Oth f H1 H2) : Oth f H H2 := fun c o h e => b c o h (a c o h e)
theorem ex_oth {f : Addr} {H H1 : Hp} (a : Ex H H1) : Oth f H H1 := fun c o _ e => a c o e
theorem Oth.upd {f : Addr} {H H1 : Hp} {o : HO} (a : Oth f H H1) : Oth f H (L2.upd H1 f o) := fun b u nb e => by rw [upd_ne nb]; exact a b u nb e
theorem Oth.ex {f : Addr} {H0 H H1 : Hp} (x : Ex H0 H) (n : H0 f = none) (a : Oth f H H1) : Ex H0 H1 := fun b o e => a b o (ne_of_none e n) (x b o e)
theorem sz_le {n : Nat} (h : n ≤ 100000) : n ≤ sizeLine := Nat.le_of_lt (small_len h)
end L3
set_option Elab.async false
set_option linter.all false
set_option maxRecDepth 100000
set_option maxHeartbeats 4000000
namespace L3
open PySem PySem.Spec PyProof.Rows L2
theorem slA_of {K : PySem.W.Frag} {H : Hp} {a : Addr} {xs : List V} {lo hi : Option Int} {Q : VK} (ha : SqT K H a xs) (q : ∀ p H', Ex H H' → SqT K H' p (cutV xs lo hi) → Q (.ref p) H') : rSlA K (.ref a) lo hi H Q := by
  refine ⟨a, xs, rfl, ha, fun hw => q a H (.refl _) ?_, fun _ p np => q p _ (ex_new np) (sq_tup upd_same)⟩
  have e : cutV xs lo hi = xs := by
    unfold cutV
    rw [hw.1, hw.2]
    simp
  rw [e]
  exact ha
theorem tyOf_mono {K : PySem.W.Frag} {H H' : Hp} {x : V} {t : Value} (e : Ex H H') (h : TyOf K H x t) : TyOf K H' x t := by
  cases h with
  | non => exact .non
  | bl x => exact .bl x
  | int i => exact .int i
  | str x => exact .str x
  | flt x => exact .flt x
  | lst h => exact .lst (e _ _ h)
  | frz h => exact .frz (e _ _ h)
  | tup h => exact .tup (e _ _ h)
  | dK h => exact .dK (e _ _ h)
  | dT h => exact .dT (e _ _ h)
  | ins h cl ha hn htk hm => exact .ins (e _ _ h) cl ha hn htk hm
theorem tyX_mono {K : PySem.W.Frag} {H H' : Hp} {x : V} {t : Value} (e : Ex H H') (h : TyX K H x t) : TyX K H' x t := by
  cases h with
  | base h => exact .base (tyOf_mono e h)
  | byt b => exact .byt b
  | set h => exact .set (e _ _ h)
  | kList h c => exact .kList h c
  | kTuple h c => exact .kTuple h c
  | kDict h c => exact .kDict h c
  | fTuple h => exact .fTuple (e _ _ h)
  | fDict h => exact .fDict (e _ _ h)
theorem Cl.mono {K : PySem.W.Frag} {H H' : Hp} {x : V} (c : Cl K H x) (e : Ex H H') : Cl K H' x := let ⟨t, b, d, h1, h2⟩ := c; ⟨t, b, d, tyX_mono e h1, h2⟩
section
variable {J : It} {n : Nat} {G : Hp → Prop} {g : TG} {tt : TT} {te : TE} {vs : List Nat} {σ : L2.St} {H1 : Hp} {D : Addr} {Qd : Hp → Prop}
/-- a comprehension over pairs of xs and ys -/
theorem lc_zip {α β : Type} (xs : List α) (ys : List β) (v : α → V) (w : β → V) (wk : L2.Walk J n G (L2.YPair (fun i => (xs.map v)[i]?) (fun i => (ys.map w)[i]?))) (hn : n = min xs.length ys.length) (gm : α → β → Option V) (I : Hp → Prop) (hI : ∀ H l, I H → I (upd H D (.lst l))) (i0 : I H1) (hz : xs.length ≤ 100000) (hG : ∀ H, I H → G H)
    (hs : ∀ (i : Nat) (a : α) (b : β) (u : Addr) (H : Hp) (acc : List V) (N : Hp → Prop), xs[i]? = some a → ys[i]? = some b → I H → H u = none → H D = some (.lst acc) → acc.length < sizeLine →
      (∀ H4, I H4 → H4 D = some (.lst acc) → match gm a b with | some y => N (upd H4 D (.lst (acc ++ [y]))) | none => N H4) → Turn g tt te vs σ D (.ref u) (upd H u (.tup [v a, w b])) N)
    (hd : ∀ H, I H → H D = some (.lst ((xs.zip ys).filterMap fun p => gm p.1 p.2)) → Qd H) :
    ∃ W : Nat → Nat → Hp → Prop, (∃ m, W 0 m (upd H1 D (.lst []))) ∧ ∀ i m H, W i m H →
      (J.stop i H ∧ Qd H) ∨ (J.go i H ∧ ∃ Nx : Hp → Prop, (∀ H', Nx H' → ∃ m', m' < m ∧ W (i + 1) m' H') ∧ ∀ x H', J.yld i H x H' → Turn g tt te vs σ D x H' Nx) := by
  refine lc_fm wk (fun i => (xs.zip ys)[i]?.bind fun p => gm p.1 p.2) I hI i0 (by omega) hG (fun i x H H' acc N hi p hD la y k => ?_) fun H p hD => hd H p ?_
  · obtain ⟨u, x1, x2, rfl, nu, rfl, g1, g2⟩ := y
    dsimp only at g1 g2
    rw [List.getElem?_map] at g1 g2
    obtain ⟨a, ha, rfl⟩ := Option.map_eq_some_iff.mp g1
    obtain ⟨b, hb, rfl⟩ := Option.map_eq_some_iff.mp g2
    refine hs i a b u H acc N ha hb p nu hD la fun H4 p4 d4 => ?_
    have := k H4 p4 d4
    have ez : (xs.zip ys)[i]? = some (a, b) := by
      rw [List.getElem?_zip_eq_some]
      exact ⟨ha, hb⟩
    simp only [ez, Option.bind_some] at this
    exact this
  · rw [hD, hn, ← List.length_zip, range_fm]
end
end L3
set_option Elab.async false
set_option linter.all false
set_option maxRecDepth 100000
set_option maxHeartbeats 4000000
namespace L3
open PySem PySem.Spec PyProof.Rows L2 PySem.SeqAt PySem.Calls
end L3
set_option Elab.async false
set_option linter.all false
set_option maxRecDepth 100000
set_option maxHeartbeats 4000000
namespace L3
open PySem PySem.Spec PyProof.Rows L2 PySem.SeqAt PySem.Calls
theorem call_isiK {X : Cx} (K : PySem.W.Frag) (h : X.K = K := by rfl) : CallR X (.builtin "isinstance") (rIsi K) := by
  subst h
  exact call_isi
end L3
set_option Elab.async false
set_option linter.all false
set_option maxRecDepth 100000
set_option maxHeartbeats 4000000
namespace L3
open PySem PySem.Spec PyProof.Rows L2 PySem.SeqAt PySem.Calls
section
variable {X : Cx} {e : Expr} {t1 t2 : TE}
def tOrE (t1 t2 : TE) : TE := fun σ H Q => t1 σ H Q ∨ t2 σ H Q
/-- one reading or the other -/
theorem pe_orE (h1 : PE X e t1) (h2 : PE X e t2) : PE X e (tOrE t1 t2) := ⟨fun pins s σ H Q I h => h.elim (h1.run pins s σ H Q I) (h2.run pins s σ H Q I)⟩
end
/-- a promise that is asked for nothing -/
theorem fc_no {P : Program} {w : World} {K : PySem.W.Frag} {mg : Str → Option Value} {base : Heap} {k : Nat} {f : Addr} {ks : List Str} {sp : Sp} (h : ∀ vs H Q E, ¬ sp vs H Q E) : Fc P w K mg base k f ks sp := fun _ _ _ _ _ _ _ _ _ _ _ _ _ z => absurd z (h _ _ _ _)
end L3
set_option Elab.async false
set_option linter.all false
set_option maxRecDepth 100000
set_option maxHeartbeats 4000000
namespace L3
open PySem PySem.Spec PyProof.Rows L2 PySem.SeqAt PySem.Calls
end L3
set_option Elab.async false
set_option linter.all false
set_option maxRecDepth 100000
set_option maxHeartbeats 4000000
namespace L3
open PySem PySem.Spec PyProof.Rows L2
section
variable {p A B : Prop} [Decidable p]
theorem ifP (h : p) (q : A) : if decide p = true then A else B := by
  rw [decide_eq_true h]
  exact iteT q
theorem ifN (h : ¬ p) (q : B) : if decide p = true then A else B := by
  rw [decide_eq_false h]
  exact iteF q
theorem ifnP (h : p) (q : B) : if (!decide p) = true then A else B := by
  rw [decide_eq_true h]
  exact iteF q
theorem ifnN (h : ¬ p) (q : A) : if (!decide p) = true then A else B := by
  rw [decide_eq_false h]
  exact iteT q
end
theorem vint_ne {a b : Int} (h : a ≠ b) : ¬ V.int a = V.int b := fun z => by
  injection z with z
  exact h z
theorem vint_eq {a b : Int} (h : a = b) : V.int a = V.int b := by rw [h]
theorem vstr_ne {a b : List Nat} (h : a ≠ b) : ¬ V.str (SX.S a) = V.str (SX.S b) := fun z => by
  injection z with z
  exact h (SX.S_inj z)
theorem vch_ne {c d : Nat} (h : c ≠ d) : ¬ V.str ⟨#[c]⟩ = V.str (SX.S [d]) := fun z => by
  injection z with z
  have e : [c] = [d] := SX.S_inj (a := [c]) z
  injection e with e
  exact h e
theorem sz_big {n : Nat} (h : n ≤ 16000000) : n ≤ sizeLine := Nat.le_trans h (by rw [sizeLine_eq]; decide)
theorem sz_lt {n : Nat} (h : n ≤ 16000000) : n < sizeLine := Nat.lt_of_le_of_lt h (by rw [sizeLine_eq]; decide)
end L3
set_option Elab.async false
set_option linter.all false
set_option maxRecDepth 100000
set_option maxHeartbeats 4000000
namespace L3
open PySem PySem.Spec PyProof.Rows L2
structure FbN (P : Program) (w : World) (K : PySem.W.Frag) (mg : Str → Option Value) (base : Heap) (k : Nat) (f : Addr) (fd : FuncData) (ps : List Str) (sp : Sp) : Prop where
  len : ∀ vs H Q E, sp vs H Q E → vs.length = ps.length
  run : ∀ (A : Around) (outer : List Env) (s : Shared) (H : Hp) (args : Args) (us : List Value) (vs : List V) (Q : VK) (E : XK), Rm k A → Env0 P w K mg base A outer s H → BindsTo s fd args (ps.zip us) → Vals vs us → sp vs H Q E →
    codeAny (model P w) A (.call (.ref f) args) (CR (L2N.CX P w) outer P w H s Q E) s
section
variable {P : Program} {w : World} {K : PySem.W.Frag} {mg : Str → Option Value} {base : Heap} {x qual : Str} {params : Arguments} {body : List Stmt} {scope : Scope} {dvs : List V} {kws : List (Str × V)} {f : Addr} {fd : FuncData} {k : Nat} {ps N : List Str} {sp : Sp}
theorem fbN_of (F : FunD K x qual params body scope dvs kws f fd) (S : FnScope N ps scope) (len : ∀ vs H Q E, sp vs H Q E → vs.length = ps.length)
    (hbody : ∀ (cdv : Value) (A : Around) (outer : List Env) (s : Shared) (H : Hp) (vs : List V) (Q : VK) (E : XK), Rm k (A.deeper (envOfC qual scope s.heap.objs.size f cdv)) → sp vs H Q E →
      ∃ t, PSs (cxOf (L2N.CX P w) P w K mg base N qual scope f cdv A outer s H E) body t ∧ t { nx := fun _ H' => Q .non H', rt := Q } (start N vs) H) : FbN P w K mg base (k + 1) f fd ps sp := by
  obtain ⟨oc, od, dV, kV, doc, pm, an, cdv, ct, osl, rfl, lk, hcd, _, _⟩ := F.ex
  refine ⟨len, fun A outer s H args us vs Q E hr e0 hb r hsp => ?_⟩
  have hl := len _ _ _ _ hsp
  have KX : K.In s.heap := e0.mod.kin.keeps fun b o e => (e0.bs b o e).1
  have lim : s.heap.NoLimit := e0.mod.nolimit.keeps fun b o e => (e0.bs b o e).1
  have hkind : ∀ y ∈ ps.zip us, scope.names.lookup y.1 = some .local ∨ (scope.names.lookup y.1 = some .cell ∧ ((cellsFrom (s.heap.objs.size + 1) scope.names []).lookup y.1).isSome = true) := fun ⟨n, v⟩ hy => by
    rcases S.par n (List.of_mem_zip hy).1 with q | q
    · exact .inl q
    · exact .inr ⟨q, PySem.W.cellsFrom_some _ _ _ (.inl q)⟩
  refine codeAny_call_function hr.rm.depth (KX _ _ lk) rfl S.co S.gen rfl (PySem.W.codeRec_of KX hcd) (hb _ _ _ _ ?_)
  refine wpAny_newFunctionEnv_cells S.kind hkind fun env he s1 x => ?_
  subst he
  refine ⟨lim.keeps x.toInCall.keep, codeAny_func ?_⟩
  obtain ⟨t, ht, hq⟩ := hbody cdv A outer s H vs Q E (hr.deeper _) hsp
  have I : Inv (cxOf (L2N.CX P w) P w K mg base N qual scope f cdv A outer s H E) [] (start N vs) H s1 := inv_start S hr.rm.hd e0 hl r x
  refine wpAny_mono (ht.run [] s1 (start N vs) H _ I hq) (fun fl s' hs => ?_) fun e s' hs => hs
  have fin : ∀ {σ' : L2.St} {H' : Hp} {v : V} {u : Value}, Inv (cxOf (L2N.CX P w) P w K mg base N qual scope f cdv A outer s H E) [] σ' H' s' → RelV v u → Q v H' → CE outer P w H s Q u s' :=
    fun {σ' H' v u} J rv q => ⟨v, H', J.os, J.bare, J.base, J.hok, rv, q⟩
  cases fl with
  | ret u =>
    obtain ⟨v, σ', H', J, rv, q⟩ := hs
    exact fin J rv q
  | next =>
    obtain ⟨σ', H', J, q⟩ := hs
    exact fin (v := V.non) (u := Value.none) J rfl q
  | brk =>
    obtain ⟨_, _, _, q⟩ := hs
    exact False.elim q
  | cont =>
    obtain ⟨_, _, _, q⟩ := hs
    exact False.elim q
theorem FbN.mono {j : Nat} (F : FbN P w K mg base j f fd ps sp) (h : j ≤ k) : FbN P w K mg base k f fd ps sp := ⟨F.len, fun A outer s H args us vs Q E hr => F.run A outer s H args us vs Q E (hr.mono h)⟩
theorem FbN.imp {sp' : Sp} (F : FbN P w K mg base k f fd ps sp) (h : ∀ vs H Q E, sp' vs H Q E → sp vs H Q E) : FbN P w K mg base k f fd ps sp' :=
  ⟨fun vs H Q E q => F.len vs H Q E (h _ _ _ _ q), fun A outer s H args us vs Q E hr he hb hv hs => F.run A outer s H args us vs Q E hr he hb hv (h _ _ _ _ hs)⟩
def FcN (P : Program) (w : World) (K : PySem.W.Frag) (mg : Str → Option Value) (base : Heap) (k : Nat) (f : Addr) (ks : List Str) (sp : Sp) : Prop :=
  ∀ (A : Around) (outer : List Env) (s : Shared) (H : Hp) (us ws : List Value) (vs : List V) (Q : VK) (E : XK), Rm k A → Env0 P w K mg base A outer s H → Vals vs (us ++ ws) → ws.length = ks.length → sp vs H Q E →
    codeAny (model P w) A (.call (.ref f) ⟨us, ks.zip ws⟩) (CR (L2N.CX P w) outer P w H s Q E) s
theorem FcN.mono {j : Nat} {ks : List Str} (F : FcN P w K mg base j f ks sp) (h : j ≤ k) : FcN P w K mg base k f ks sp := fun A outer s H us ws vs Q E hr => F A outer s H us ws vs Q E (hr.mono h)
theorem FcN.imp {sp' : Sp} {ks : List Str} (F : FcN P w K mg base k f ks sp) (h : ∀ vs H Q E, sp' vs H Q E → sp vs H Q E) : FcN P w K mg base k f ks sp' :=
  fun A outer s H us ws vs Q E hr he hv hl hs => F A outer s H us ws vs Q E hr he hv hl (h _ _ _ _ hs)
/-- every parameter is given by place -/
theorem FbN.all (F : FbN P w K mg base k f fd ps sp) (hb : Binds K fd ps []) : FcN P w K mg base k f [] sp := fun A outer s H us ws vs Q E hr e0 r hl h => by
  cases ws with
  | cons w ws => cases hl
  | nil =>
    rw [List.append_nil] at r
    have KX : K.In s.heap := e0.mod.kin.keeps fun b o e => (e0.bs b o e).1
    have l2 : us.length = ps.length := by rw [← r.length]; exact F.len _ _ _ _ h
    have b := hb s us KX (by rw [List.append_nil]; exact l2)
    rw [List.append_nil] at b
    exact F.run A outer s H ⟨us, []⟩ us vs Q E hr e0 b r h
/-- some by place, some by name, some left out: g puts the given ones and the defaults into the parameters' order -/
theorem FbN.shape (D : FunD K x qual params body scope dvs kws f fd) (F : FbN P w K mg base k f fd ps sp) (n : Nat) (ks : List Str) (g : {α : Type} → List α → List α → List α) (hd : dvs ≠ [])
    (hrel : ∀ {vs ds : List V} {us its : List Value}, Vals vs us → Vals ds its → Vals (g vs ds) (g us its))
    (h : ∀ (T : Addr) (kV doc pm : Value) (an : Option Addr) (cdv ct : Value) (us ws its : List Value), us.length = n → ws.length = ks.length → its.length = dvs.length →
      ∃ k, bindArgs (PySem.W.fnOf x qual params body scope (.ref T) kV doc pm an cdv ct) ⟨us, ks.zip ws⟩ = seqItems? (.ref T) >>= k ∧ k (some its.toArray) = pure (ps.zip (g (us ++ ws) its))) :
    FcN P w K mg base k f ks (fun vs H Q E => vs.length = n + ks.length ∧ sp (g vs dvs) H Q E) := by
  obtain ⟨oc, od, dV, kV, doc, pm, an, cdv, ct, osl, rfl, lk, hcd, hD, hK⟩ := D.ex
  rcases hD with ⟨e, _⟩ | ⟨_, T, o, its, m, rfl, lT, oT, rT⟩
  · exact absurd e hd
  · intro A outer s H us ws vs Q E hr e0 r hl hsp
    have KX : K.In s.heap := e0.mod.kin.keeps fun b o e => (e0.bs b o e).1
    have l1 : its.length = dvs.length := rT.length.symm
    have l2 : us.length = n := by
      have e := r.length
      rw [hsp.1, List.length_append, hl] at e
      omega
    obtain ⟨k, e1, e2⟩ := h T kV doc pm an cdv ct us ws its l2 hl l1
    refine F.run A outer s H ⟨us, ks.zip ws⟩ (g (us ++ ws) its) (g vs dvs) Q E hr e0 (BindsTo.of_looks fun M => ?_) (hrel r rT) hsp.2
    rw [e1]
    exact looks_items KX lT oT (.of_pure e2)
/-- all parameters given, some by name, no defaults -/
theorem FbN.names (D : FunD K x qual params body scope [] kws f fd) (F : FbN P w K mg base k f fd ps sp) (n : Nat) (ks : List Str) (g : {α : Type} → List α → List α)
    (hrel : ∀ {vs : List V} {us : List Value}, Vals vs us → Vals (g vs) (g us))
    (h : ∀ (kV doc pm : Value) (an : Option Addr) (cdv ct : Value) (us ws : List Value), us.length = n → ws.length = ks.length →
      bindArgs (PySem.W.fnOf x qual params body scope .none kV doc pm an cdv ct) ⟨us, ks.zip ws⟩ = pure (ps.zip (g (us ++ ws)))) :
    FcN P w K mg base k f ks (fun vs H Q E => vs.length = n + ks.length ∧ sp (g vs) H Q E) := by
  obtain ⟨oc, od, dV, kV, doc, pm, an, cdv, ct, osl, rfl, lk, hcd, hD, hK⟩ := D.ex
  rcases hD with ⟨_, rfl⟩ | ⟨e, _⟩
  · intro A outer s H us ws vs Q E hr e0 r hl hsp
    have l2 : us.length = n := by
      have e := r.length
      rw [hsp.1, List.length_append, hl] at e
      omega
    exact F.run A outer s H ⟨us, ks.zip ws⟩ (g (us ++ ws)) (g vs) Q E hr e0 (.of_eq (h kV doc pm an cdv ct us ws l2 hl)) (hrel r) hsp.2
  · exact absurd rfl e
end
theorem cxN {P : Program} {w : World} {outer : List Env} {H : Hp} {s : Shared} {E : XK} {u : Value} {s' : Shared} (h : L2N.CX P w outer H s E u s') : L2.CX P w outer H s E u s' := by
  obtain ⟨a, B, H', cls, d, e, fl, r⟩ := h
  exact ⟨a, B, H', cls, d, e, L2H.flyingZ_imp (fun o z => z.zc) fl, r⟩
theorem FcN.fc {P : Program} {w : World} {K : PySem.W.Frag} {mg : Str → Option Value} {base : Heap} {k : Nat} {f : Addr} {ks : List Str} {sp : Sp} (F : FcN P w K mg base k f ks sp) : Fc P w K mg base k f ks sp :=
  fun A outer s H us ws vs Q E hr e0 r hl h => codeAny_mono (F A outer s H us ws vs Q E hr e0 r hl h) fun r s' hq => by
    cases r with
    | error e => exact cxN hq
    | ok fl =>
      cases fl with
      | ret u => exact hq
      | next => exact hq
      | brk => exact hq
      | cont => exact hq
section
variable {X : Cx} {k : Nat} {f C : Addr} {ks : List Str} {sp : Sp} {W : WX} {x m : Str} {p pos apos : Pos} {e o : Expr} {es : List Expr} {kws : List Keyword} {ta : TE} {t tk : TA}
theorem run_fcN {pins : List (Addr × Obj)} {σ : L2.St} {H : Hp} {s : Shared} {Q : VK} {us ws : List Value} {vs : List V} (F : FcN X.prog X.w X.K X.mg X.base k f ks sp) (hr : Rm k X.A) (hx : L2N.Takes X W)
    (I : Inv X pins σ H s) (r : Vals vs (us ++ ws)) (hl : ws.length = ks.length) (h : sp vs H Q (WE W σ)) : wpAny (model X.prog X.w) X.A (call (.ref f) us (ks.zip ws)) (EP X pins σ Q) X.xe s := by
  refine wpAny_call (codeAny_mono (F X.A X.stack s H us ws vs Q (WE W σ) hr I.env0 r hl h) fun r s' hq => ?_)
  cases r with
  | error e => exact L2N.passAt hx σ pins H s e s' I hq
  | ok fl =>
    cases fl with
    | ret u => exact I.after hq
    | next => exact False.elim hq
    | brk => exact False.elim hq
    | cont => exact False.elim hq
/-- f(e, ..) -/
theorem c_callN (F : FcN X.prog X.w X.K X.mg X.base k f [] sp) (hr : Rm k X.A) (hm : X.mg x = some (.ref f)) (hk : PySem.W.keepIn X.K (.ref f) = true) (hx : L2N.Takes X W)
    (ha : PA X (e :: es) t) (hg : Gl X x := by rfl) (hdb : (x == ("__debug__" : Str)) = false := by decide) (he : starEach (e :: es) X.env = (false, eval e X.env) :: starEach es X.env := by rfl) (hpl : (backTo pos (starEach es X.env)).any (·.1) = false := by rfl) :
    PE X (.Call (.Name x p) (e :: es) [] pos) (tFc sp W t) := by
  refine ⟨fun pins s σ H Q I h => ?_⟩
  refine wpAny_Call_Name_kw (ld_glob I hg hm ?_ hdb)
  refine PySem.W.callWith_K (h₀ := X.base) I.ok.mod.kin hk (thn (ha.run pos pins s σ H _ I h) fun us s1 ⟨vs, H1, I1, r, q⟩ => ⟨I1.kIn, ?_⟩) he hpl
  exact run_fcN (ws := []) F hr hx I1 (by rw [List.append_nil]; exact r) rfl q
end
end L3
namespace L3
open PySem PySem.Spec PyProof.Rows L2 L2H HotX
/-- the heap behind «from x1» -/
def causeFrom (h : Heap) (a x1 : Addr) : Heap := (h.update a (Obj.mapFields (·.setIfInBounds 3 (.ref x1)))).update a (Obj.mapFields (·.setIfInBounds 4 (.bool true)))
theorem causeFrom_at {h : Heap} {a x1 : Addr} {oe : Obj} {vs : Array Value} (ha : h.get? a = some oe) (hd : oe.data = .fields vs) :
    (causeFrom h a x1).get? a = some ((oe.mapFields (·.setIfInBounds 3 (.ref x1))).mapFields (·.setIfInBounds 4 (.bool true))) ∧ ((oe.mapFields (·.setIfInBounds 3 (.ref x1))).mapFields (·.setIfInBounds 4 (.bool true))).data = .fields ((vs.setIfInBounds 3 (.ref x1)).setIfInBounds 4 (.bool true)) := by
  have hd3 := Obj.data_mapFields hd (·.setIfInBounds 3 (.ref x1))
  have ha3 := Heap.get?_update_self (Obj.mapFields (·.setIfInBounds 3 (.ref x1))) ha (Obj.isFreed_of_fields hd3)
  have hd4 := Obj.data_mapFields hd3 (·.setIfInBounds 4 (.bool true))
  exact ⟨Heap.get?_update_self (Obj.mapFields (·.setIfInBounds 4 (.bool true))) ha3 (Obj.isFreed_of_fields hd4), hd4⟩
theorem causeFrom_other {h : Heap} {a b x1 : Addr} (hne : a ≠ b) : (causeFrom h a x1).get? b = h.get? b := by
  unfold causeFrom
  rw [Heap.get?_update_other _ _ hne, Heap.get?_update_other _ _ hne]
theorem raise_made_hotF {prog : Program} {w : World} {A : Around} {E : Value → Shared → Prop} {env : Env} {s : Shared} {x c : Sem Value} {Q : Flow → Shared → Prop} {x1 : Addr}
    (h : wpAny (model prog w) A x (fun v s₁ => ∃ a oe vs cls, v = .ref a ∧ s₁.heap.get? a = some oe ∧ oe.cls = cls ∧ oe.data = .fields vs ∧ vs[1]? = some .none ∧ 4 < vs.size ∧ x1 ≠ a ∧ HotAt A x1 s₁.heap ∧
      PySem.W.Looks (model prog w) s₁.heap (isSubtype cls (.type "BaseException")) true ∧ PySem.W.Looks (model prog w) (causeFrom s₁.heap a x1) (typeOf cls) (.type "type") ∧
      (∃ o1 cls1, s₁.heap.get? x1 = some o1 ∧ o1.cls = cls1 ∧ PySem.W.Looks (model prog w) s₁.heap (isSubtype cls1 (.type "BaseException")) true) ∧
      (∀ Q' : Value → Shared → Prop, Q' (.ref x1) s₁ → wpAny (model prog w) A c Q' E s₁) ∧
      E (.ref a) { s₁ with heap := (causeFrom s₁.heap a x1).update a (Obj.mapFields (·.setIfInBounds 2 (.ref x1))) }) E s) :
    wpAny (model prog w) A (raiseStmt env (some x) (some c)) Q E s := by
  unfold raiseStmt
  dsimp only
  refine wpAny_bind (wpAny_mono h (fun v s₁ h₁ => ?_) fun _ _ x => x)
  obtain ⟨a, oe, vs, cls, rfl, ha, hcls, hd, h1, hi, hne, hot, L1, L3, ⟨o1, cls1, ho1, hcls1, L1c⟩, hcs, hE⟩ := h₁
  have LT : PySem.W.Looks (model prog w) s₁.heap (typeOf (.ref a)) cls := fun A Q E s k q => wpAny_typeOf_ref (k _ _ ha) (by rw [hcls]; exact q)
  have LI : PySem.W.Looks (model prog w) s₁.heap (isInstance (.ref a) (.type "BaseException")) true := LT.andThen L1
  have LTc : PySem.W.Looks (model prog w) s₁.heap (typeOf (.ref x1)) cls1 := fun A Q E s k q => wpAny_typeOf_ref (k _ _ ho1) (by rw [hcls1]; exact q)
  have LIc : PySem.W.Looks (model prog w) s₁.heap (isInstance (.ref x1) (.type "BaseException")) true := LTc.andThen L1c
  have hnt : ∀ {Q' : Bool → Shared → Prop}, Q' false s₁ → wpAny (model prog w) A (isType (.ref a)) Q' E s₁ := by
    intro Q' hq
    simp only [isType, loadHead]
    refine wpAny_bind (wpAny_loadPart ha ?_)
    rw [hd]; exact wpAny_pure hq
  have hntc : ∀ {Q' : Bool → Shared → Prop}, Q' false s₁ → wpAny (model prog w) A (isType (.ref x1)) Q' E s₁ := by
    intro Q' hq
    obtain ⟨_, o, vs', q2, q3, _⟩ := hot
    simp only [isType, loadHead]
    refine wpAny_bind (wpAny_loadPart q2 ?_)
    rw [q3]; exact wpAny_pure hq
  have hd3 := Obj.data_mapFields hd (·.setIfInBounds 3 (.ref x1))
  have ha3 := Heap.get?_update_self (Obj.mapFields (·.setIfInBounds 3 (.ref x1))) ha (Obj.isFreed_of_fields hd3)
  obtain ⟨ha4, hd4⟩ := causeFrom_at (x1 := x1) ha hd
  have s3 : 3 < vs.size := by omega
  have s4 : 4 < (vs.setIfInBounds 3 (Value.ref x1)).size := by rw [set_size]; exact hi
  have s2 : 2 < ((vs.setIfInBounds 3 (Value.ref x1)).setIfInBounds 4 (Value.bool true)).size := by rw [set_size, set_size]; omega
  have h14 : ((vs.setIfInBounds 3 (Value.ref x1)).setIfInBounds 4 (Value.bool true))[1]? = some Value.none := set_other (by decide) (set_other (by decide) h1)
  have hcls4 : ((oe.mapFields (·.setIfInBounds 3 (.ref x1))).mapFields (·.setIfInBounds 4 (.bool true))).cls = cls := by rw [Obj.cls_mapFields, Obj.cls_mapFields]; exact hcls
  have LT4 : PySem.W.Looks (model prog w) (causeFrom s₁.heap a x1) (typeOf (.ref a)) cls := fun A Q E s k q => wpAny_typeOf_ref (k _ _ ha4) (by rw [hcls4]; exact q)
  have hnt4 : ∀ {Q' : Bool → Shared → Prop}, Q' false { s₁ with heap := causeFrom s₁.heap a x1 } → wpAny (model prog w) A (isType (.ref a)) Q' E { s₁ with heap := causeFrom s₁.heap a x1 } := by
    intro Q' hq
    simp only [isType, loadHead]
    refine wpAny_bind (wpAny_loadPart ha4 ?_)
    rw [hd4]; exact wpAny_pure hq
  have hot4 : HotAt A x1 (causeFrom s₁.heap a x1) := by
    obtain ⟨q1, o, vs', q2, q3, q4⟩ := hot
    exact ⟨q1, o, vs', by rw [causeFrom_other (Ne.symm hne)]; exact q2, q3, q4⟩
  have rest : wpAny (model prog w) A (do
      let b ← isType (.ref a)
      if b = true then do
        let e ← holding [.ref a] (raisedFor (.ref a) (.ref a))
        setFlight e none
        raiseNew e
      else do
        let e ← raisedInstance (.ref a)
        setFlight e none
        raiseNew e : Sem Flow) Q E { s₁ with heap := causeFrom s₁.heap a x1 } := by
    refine wpAny_bind (hnt4 ?_)
    simp only [Bool.false_eq_true, if_false]
    unfold raisedInstance
    refine wpAny_bind (wpAny_bind (LT4.here (wpAny_bind (L3.here ?_))))
    rw [if_pos (beq_self_eq_true _)]
    refine wpAny_pure ?_
    unfold setFlight
    refine wpAny_bind (wpAny_bind (wpAny_field ha4 hd4 h14 ?_))
    rw [if_neg (by decide)]
    refine wpAny_pure ?_
    exact raiseNew_hot hot4 hne ha4 hd4 s2 hE
  refine wpAny_bind (wpAny_holding (hcs _ (wpAny_bind (wpAny_pure ?_))))
  dsimp only
  refine wpAny_bind (wpAny_holding ?_)
  unfold excFromValue isExcClass
  refine wpAny_bind (wpAny_bind (hnt ?_))
  simp only [Bool.false_eq_true, if_false]
  refine wpAny_pure ?_
  simp only [Bool.false_eq_true, if_false]
  refine wpAny_bind (LI.here ?_)
  simp only [if_true]
  refine wpAny_pure ?_
  have nn : ¬ (Value.ref x1 == Value.none) = true := by simp
  first
  | rw [if_neg nn]
  | (show wpAny _ _ (if (Value.ref x1 == Value.none) = true then _ else _) _ _ _; rw [if_neg nn])
  | simp only [nn, if_false]
  refine wpAny_bind (wpAny_holding ?_)
  refine wpAny_bind (wpAny_bind (hntc ?_))
  simp only [Bool.false_eq_true, if_false]
  refine wpAny_pure ?_
  simp only [Bool.false_eq_true, if_false]
  refine wpAny_bind (LIc.here ?_)
  simp only [if_true]
  refine wpAny_pure ?_
  refine wpAny_bind (wpAny_setField ha hd s3 (wpAny_bind (wpAny_setField ha3 hd3 s4 ?_)))
  exact rest
/-- X('m'), its record told -/
theorem pmk5_own {X : Cx} {C : Addr} {bmB : List Value} {B newId initId : String} {x m : Str} {j : Nat} {p p2 pos : Pos} (F : ExcBaseFacts B newId initId bmB) (q : PySem.W.excIn X.K C bmB newId = true) (gC : X.mg x = some (.ref C)) (kC : PySem.W.keepIn X.K (.ref C) = true) (r : Raises X (.ref C)) (hg : Gl X x)
    (hdb : (x == ("__debug__" : Str)) = false := by decide) : PMk5 X (.Call (.Name x p) [.Constant (.str m) j p2] [] pos) (fun _ H Q => Q (.ref C) none H) := by
  intro pins s σ H Q I h
  refine wpAny_Call_Name_kw (ld_glob I hg gC ?_ hdb)
  have ha : PA X [.Constant (.str m) j p2] (tCons (tC (.str m)) tNil) := pa_cons pe_str pa_nil
  refine PySem.W.callWith_K (h₀ := X.base) I.ok.mod.kin kC (thn (ha.run pos pins s σ H (fun vs H1 => vs = [V.str m] ∧ H = H1) I ⟨rfl, rfl⟩) fun us s1 hh => ?_)
  obtain ⟨vs, H1, I1, r1, ev, eH⟩ := hh
  subst ev
  rw [← eH] at I1
  refine ⟨I1.kIn, ?_⟩
  cases r1 with
  | cons ru rn =>
    rename_i u us'
    cases rn
    show wpAny _ _ (call (.ref C) [u]) _ _ _
    obtain ⟨bm, N, nm, qn, bs, hdct, sn, sub, ab, col, dd, k0, k1, k2, k3, k5, mN, hC, hN, hni, T⟩ := exc_obj I1.kIn q
    refine wpAny_call_exc_subT F T hC hN hni (fun h' e hm => ?_) (by show 1 ≤ sizeLine; rw [sizeLine_eq]; omega)
    exact mk_of5 I1 hm r h (I1.hok.gone hm.new)
/-- a name's object is changed: n is unbound -/
theorem Inv.gone {X : Cx} {pins : List (Addr × Obj)} {σ : L2.St} {H : Hp} {s : Shared} {h' : Heap} {i : Nat} {n : Str} {m : Str → Option Value} {v : Option Value} (I : Inv X pins σ H s) (hN : X.N.Nodup) (hi : X.N[i]? = some n)
    (hlk : ∀ (i : Nat) (x : Str) (v : V), X.N[i]? = some x → σ[i]? = some (some v) → Vis X.env.scope x → ∃ u, RelV v u ∧ Look X.env s.heap m x u)
    (hn' : h'.Ns X.env.locals (fun x => if x = n then v else m x)) (hs : Heap.SameBut X.env.locals s.heap h') : Inv X pins (σ.set i none) H { s with heap := h' } := by
  have neL : ∀ b o, X.s_0.heap.get? b = some o → b ≠ X.env.locals := fun b o e => Nat.ne_of_lt (Nat.lt_of_lt_of_le (Heap.lt_size e) I.ok.above)
  refine ⟨I.ok, I.os, I.bare, ⟨fun b o e n hb hx => ?_, fun b o e n hb hx => ?_, I.base.free, fun b o e hx => ?_, I.base.tups, I.base.frzs, I.base.tbls⟩, ⟨_, hn', fun j y v' e1 e2 e3 => ?_⟩, fun y c e => ?_, I.free, I.freeC, fun p hp => ?_, fun b ob e => ?_, by simpa using I.len⟩
  · exact (hs.2 b (neL b o e)).trans (I.base.keep b o e n hb hx)
  · obtain ⟨sl, e1⟩ := I.base.slot b o e n hb hx
    exact ⟨sl, (hs.2 b (neL b o e)).trans e1⟩
  · obtain ⟨o', e1⟩ := I.base.there b o e hx
    exact ⟨o', (hs.2 b (neL b o e)).trans e1⟩
  · by_cases hj : j = i
    · subst hj
      by_cases hlt : j < σ.length
      · rw [List.getElem?_set_self hlt] at e2; cases e2
      · rw [List.getElem?_eq_none (by simpa using hlt)] at e2; cases e2
    · rw [List.getElem?_set_ne (Ne.symm hj)] at e2
      obtain ⟨u', r', q⟩ := hlk j y v' e1 e2 e3
      refine ⟨u', r', ?_⟩
      rcases q with ⟨k, e⟩ | ⟨k, c, e, z⟩
      · have ny : y ≠ n := fun e => hj (nodup_ix hN e1 (e ▸ hi))
        exact .inl ⟨k, (if_neg ny).trans e⟩
      · exact .inr ⟨k, c, e, z.sameBut hs (I.cne y c e)⟩
  · obtain ⟨w', z⟩ := I.cell y c e
    exact ⟨w', z.sameBut hs (I.cne y c e)⟩
  · obtain ⟨e, n, ne, nf, d⟩ := I.pin p hp
    exact ⟨(hs.2 p.1 ne).trans e, n, ne, nf, d⟩
  · refine (I.hok b ob e).stay (fun c w' hc q => (hs.2 c ?_).trans q) (fun _ q => q) fun _ _ q => q
    intro z
    subst z
    rcases hc with hc | hc
    · rw [← hc, I.free] at e; cases e
    · rw [I.free] at hc; cases hc
theorem ff_keeps {h h' base : Heap} (k : ∀ b o, h.get? b = some o → (∀ vs, o.data ≠ .fields vs) → ∃ o', h'.get? b = some o' ∧ ∀ vs, o'.data ≠ .fields vs) : ∀ {l : List Env}, h.FunFrames base l → h'.FunFrames base l
  | [], _ => trivial
  | env :: rest, hl => by
    obtain ⟨hk, ⟨L, o, hf, hn, ho, hd⟩, hr⟩ := hl
    obtain ⟨o', ho', hd'⟩ := k L o ho hd
    exact ⟨hk, ⟨L, o', hf, hn, ho', hd'⟩, ff_keeps k hr⟩
/-- a held exception, n unbound behind it -/
theorem XE.unbound {X : Cx} {W : WX} {a i : Nat} {n : Str} {B : Heap} {sI s5 : Shared} {pins : List (Addr × Obj)} {σ : L2.St} {H : Hp} {cls : Value} {d : Option Addr} {M : Model} {A : Around} {E₁ : Value → Shared → Prop} {pos : Pos} {Q : Unit → Shared → Prop}
    (hs : X.stack = X.env :: X.outer) (hf : X.env.frame = some X.env.locals) (hN : X.N.Nodup) (hi : X.N[i]? = some n) (hln : X.env.kindOf n = some .local)
    (I : Inv X pins σ H sI) (nb : ∀ b o, sI.heap.get? b = some o → b ∉ frs X.stack → B.get? b = some o) (up : sI.heap.UpToSlots s5.heap) (hh : HandSPX.HeldZ B (X.env :: X.outer) a (Zc cls d) X.env.locals s5.heap)
    (q : ∀ (sI' : Shared) (h6 : Heap), Inv X pins (σ.set i none) H sI' → (∀ b o, sI'.heap.get? b = some o → b ∉ frs X.stack → B.get? b = some o) → sI'.heap.UpToSlots h6 → HandSPX.HeldZ B (X.env :: X.outer) a (Zc cls d) X.env.locals h6 → sI'.os = sI.os → Q () { s5 with heap := h6, toks := s5.toks + 1 }) :
    wpAny M A (do bindName X.env n .none; unbindBehindTheSuite X.env n pos) Q E₁ s5 := by
  obtain ⟨m, ⟨oL, es, ep, hoL, hdL, rL⟩, hlk⟩ := id I.loc
  have hcls : (X.env.scope.kind == .class || (X.env.scope.kind == .module && X.env.locals != X.env.globals)) = false := by rw [I.ok.kind]; rfl
  have nfL : ∀ vs, oL.data ≠ .fields vs := fun vs z => by rw [hdL] at z; cases z
  obtain ⟨sl, hL5⟩ := up _ _ hoL nfL
  have inL : X.env.locals ∈ frs X.stack := by rw [hs]; exact List.mem_filterMap.mpr ⟨X.env, List.mem_cons_self, hf⟩
  refine wpAny_nameGoes_keeps hln (m := m) ⟨_, es, ep, hL5, hdL, rL⟩ hcls fun h6 v hn6 hs6 => ?_
  obtain ⟨o6, es6, ep6, ho6, hd6, r6⟩ := id hn6
  have hfree : o6.isFreed = false := (Heap.get?_some_iff.mp ho6).2
  have up6 := Heap.get?_update_self (fun _ => o6) hoL hfree
  have sb : Heap.SameBut X.env.locals sI.heap (sI.heap.update X.env.locals fun _ => o6) := Heap.SameBut.update _ _ _
  have I6 := Inv.gone (h' := sI.heap.update X.env.locals fun _ => o6) (v := v) I hN hi hlk ⟨o6, es6, ep6, up6, hd6, r6⟩ sb
  obtain ⟨k1, k2, k3, oe, vs, T, oT, ts, he, hz, hd, h1, hnT, hTe, hT, hdT, h3⟩ := hh
  have nfr : ∀ {b : Addr} {o : Obj}, b ∈ frs X.stack → s5.heap.get? b = some o → ∀ vs, o.data ≠ .fields vs := fun {b o} hb e vs z => by
    rw [hs] at hb
    obtain ⟨_, o', e', hnf⟩ := k3.mem hb
    rw [e] at e'
    cases e'
    exact hnf _ z
  have aL : a ≠ X.env.locals := fun z => nfr (z ▸ inL) he _ hd
  have tL : T ≠ X.env.locals := fun z => nfr (z ▸ inL) hT _ hdT
  refine q _ h6 I6 (fun b o e hb => ?_) (fun b o e hn => ?_) ⟨fun b o e => ?_, k2, ff_keeps (fun b o e hn => ?_) k3, oe, vs, T, oT, ts, (hs6.2 _ aL).trans he, hz, hd, h1, hnT, hTe, (hs6.2 _ tL).trans hT, hdT, h3⟩ rfl
  · have bL : b ≠ X.env.locals := fun z => hb (z ▸ inL)
    rw [show (sI.heap.update X.env.locals fun _ => o6).get? b = sI.heap.get? b from sb.2 b bL] at e
    exact nb b o e hb
  · by_cases bL : b = X.env.locals
    · subst bL
      rw [show ({ sI with heap := sI.heap.update X.env.locals fun _ => o6 } : Shared).heap.get? X.env.locals = some o6 from up6] at e
      cases e
      exact ⟨o6.slots, ho6⟩
    · rw [show ({ sI with heap := sI.heap.update X.env.locals fun _ => o6 } : Shared).heap.get? b = sI.heap.get? b from sb.2 b bL] at e
      obtain ⟨sl, z⟩ := up b o e hn
      exact ⟨sl, (hs6.2 b bL).trans z⟩
  · have bL : b ≠ X.env.locals := fun z => by
      subst z
      rw [hs] at inL
      rw [(k3.mem inL).1] at e
      cases e
    exact (hs6.2 b bL).trans (k1 b o e)
  · by_cases bL : b = X.env.locals
    · subst bL
      exact ⟨o6, ho6, fun vs z => by rw [hd6] at z; cases z⟩
    · exact ⟨o, (hs6.2 b bL).trans e, hn⟩
/-- what the clause 'except x as n: raise e from n' wishes of an exception of the body -/
def wFrom (X : Cx) (c : Value) (i : Nat) (t : L2.St → Hp → XK → Prop) (Wout : WX) : WX := fun cls d σ H =>
  PySem.W.exmOne X.K cls c = some true ∧ Raises X cls ∧ ∀ a, H a = none → t (σ.set i (some (.ref a))) H fun cls' d' H' => Wout cls' d' ((σ.set i (some (.ref a))).set i none) H'
def tTryFrom (X : Cx) (c : Value) (i : Nat) (t : L2.St → Hp → XK → Prop) (Wout : WX) (tb : WX → TS) : TS := fun D σ H => tb (wFrom X c i t Wout) D σ H
theorem ps_try_from {X : Cx} {x n : Str} {c : Value} {i : Nat} {body : List Stmt} {e : Expr} {np np2 rpos pos pos' : Pos} {tb : WX → TS} {t : L2.St → Hp → XK → Prop} {Wout : WX}
    (hs : X.stack = X.env :: X.outer) (hf : X.env.frame = some X.env.locals) (hN : X.N.Nodup) (hi : X.N[i]? = some n) (hln : X.env.kindOf n = some .local) (hdn : (n == ("__debug__" : Str)) = false) (hc : Names X x c)
    (hpa : ∀ hd : Option Value, PassesOwnAt (model X.prog X.w) (X.A.mark hd) X.A X.env X.xe) (tk : L2.Takes X Wout)
    (hb : ∀ (W : WX) (pn : List (Addr × Obj)) (xe : Value → Shared → Prop), L2N.Takes (X.tr pn xe) W → PassesOwn (model X.prog X.w) X.A X.env xe → PSs (X.tr pn xe) body (tb W))
    (he : ∀ (a : Addr) (pn : List (Addr × Obj)) (xe : Value → Shared → Prop), PMk5 ({ suiteX X a pn with xe := xe } : Cx) e t) :
    PS X (.Try body [.ExceptHandler (some (.Name x np)) (some n) [.Raise (some e) (some (.Name n np2)) rpos] pos'] [] [] pos) (tTryFrom X c i t Wout tb) := by
  refine ⟨fun pins s σ H D I h => ?_⟩
  have ok := I.ok
  have hfr : X.A.frames = some (X.env :: X.outer) := by rw [ok.frames, hs]
  have hloc : Loc X.env.scope n := .inl hln
  refine wpAny_Try_except ?_
  refine wpAny_mono ((hb (wFrom X c i t Wout) (X.pn ++ pins) (fun e2 s₁ => wpAny (model X.prog X.w) X.A (noteFrame e2 X.env) (fun _ s₂ => wpAny (model X.prog X.w) X.A (setFlight e2 none) (fun _ s₃ =>
    wpAny (model X.prog X.w) X.A (handleBy e2 X.env [.ExceptHandler (some (.Name x np)) (some n) [.Raise (some e) (some (.Name n np2)) rpos] pos']) (SP X pins D) X.xe s₃) X.xe s₂) X.xe s₁) (fun u s' xx => ?_) PassesOwn.looking).run [] s σ H D (I.toTry _) h) (fun f s1 hsp => ?_) (fun e s1 he => he)
  · obtain ⟨a, B, sI, pins', σ', H', cls, d, rfl, J', nb, up, sky, na, os, ag, hb1, hrs, hyes⟩ := xx
    have J : Inv X pins σ' H' sI := J'.ofTry ok
    have sky' : Sky B (X.env :: X.outer) a (L2N.Zn cls d) X.env.locals s'.heap := by rw [← hs]; exact sky
    show wpAny (model X.prog X.w) X.A (noteFrame (.ref a) X.env) _ _ _
    refine L2N.Sky.land L2N.Zn.steady hfr hf sky' fun h3 fl3 up3 => ?_
    have J3 : Inv X pins σ' H' { s' with heap := h3 } := J.landed nb fl3.1 (up.trans up3) os ag
    obtain ⟨oe3, vs3, he3, hz3, hd3⟩ := fl3.there
    have notFr : ∀ {h : Heap} {o : Obj} {vs : Array Value}, h.FunFrames B (X.env :: X.outer) → h.get? a = some o → o.data = .fields vs → a ∉ frs (X.env :: X.outer) := fun {h o vs} ff e dd hm => by
      obtain ⟨_, o', e', hnf⟩ := ff.mem hm
      rw [e] at e'; cases e'
      exact hnf _ dd
    have nfr := notFr fl3.2.2.1 he3 hd3
    have nL : a ≠ X.env.locals := fun z => nfr (List.mem_filterMap.mpr ⟨X.env, List.mem_cons_self, by rw [hf, z]⟩)
    have nF : a ∉ X.fs := fun hm => by
      obtain ⟨e, he, q⟩ := List.mem_filterMap.mp hm
      exact nfr (List.mem_filterMap.mpr ⟨e, List.mem_cons_of_mem _ he, q⟩)
    have S3 := J3.suite he3 hd3 na nL nF
    refine wpAny_handleBy_cons (codeAny_handlers_test ?_) (by intro q; cases q)
    have LT : PySem.W.Looks (model X.prog X.w) h3 (typeOf (.ref a)) cls := fun A Q E s k q => wpAny_typeOf_ref (k _ _ he3) (by rw [hz3.1]; exact q)
    have LM := PySem.W.exm_one (M := model X.prog X.w) (J3.kIn) LT hb1
    have test : ∀ {Q : Value → Shared → Prop} {E : Value → Shared → Prop}, Q c { s' with heap := h3 } → wpAny (model X.prog X.w) (X.A.mark (some (.ref a))) (eval (.Name x np) X.env) Q E { s' with heap := h3 } := fun {Q E} q => by
      obtain ⟨hg, hdbg, hm | ⟨hm, hv, hnn⟩⟩ := hc
      · exact ld_glob (X := X.suite a ((a, oe3) :: (X.pn ++ pins))) S3 hg hm q hdbg
      · exact ld_blt (X := X.suite a ((a, oe3) :: (X.pn ++ pins))) S3 hg hm hv q hnn hdbg
    refine test (LM.here ?_)
    refine codeAny_handlers_suite_as ?_
    refine HandSPX.lands_againZ fl3 fun h4 fl4 up4 => ?_
    have J4 : Inv X pins σ' H' { s' with heap := h4 } := J.landed nb fl4.1 ((up.trans up3).trans up4) os ag
    obtain ⟨oe4, vs4, he4, hz4, hd4⟩ := fl4.there
    have S4 := J4.suite he4 hd4 na nL nF
    refine store_ok (X := X.suite a ((a, oe4) :: (X.pn ++ pins))) (v := .ref a) S4 hN hi hloc rfl (fun s5 S5 => ?_) (.inr hln)
    -- the raise
    let Wr : WX := fun cls' d' σ2 H2 => Wout cls' d' (σ2.set i none) H2
    have S5' : Inv ({ suiteX X a ((a, oe4) :: (X.pn ++ pins)) with xe := fun u s2 => L2.XE X Wr u s2 } : Cx) [] (σ'.set i (some (.ref a))) H' s5 := Inv.wish (X := suiteX X a ((a, oe4) :: (X.pn ++ pins))) (suiteX_of S5) _
    have run : wpAny (model X.prog X.w) (X.A.mark (some (.ref a))) (execs [.Raise (some e) (some (.Name n np2)) rpos] X.env) (fun _ _ => False) (fun u s2 => L2.XE X Wr u s2) s5 := by
      refine wpAny_execs_cons ?_
      show wpAny _ _ (do standAt rpos; raiseStmt X.env (some (do let v ← eval e X.env; standAt rpos; pure v)) (some (do let v ← eval (.Name n np2) X.env; standAt rpos; pure v))) _ _ _
      refine wpAny_bind (wpAny_standAt (raise_made_hotF (x1 := a) (wpAny_bind (wpAny_mono (he a ((a, oe4) :: (X.pn ++ pins)) (fun u s2 => L2.XE X Wr u s2) [] s5 _ H' _ S5' (hyes a na)) (fun u s6 hu => wpAny_bind (wpAny_standAt (wpAny_pure ?_))) fun _ _ z => z))))
      obtain ⟨⟨a2, oe, vs, sJ, H2, cls2, d2, rfl, K1, k, hne, ha, hz, hd, h1, na2, os2, ag2, r, q⟩, h5⟩ := hu
      have hi5 : 4 < vs.size := h5 a2 oe vs rfl ha hd
      have k4 : ∀ b u, sJ.heap.get? b = some u → (causeFrom s6.heap a2 a).get? b = some u := fun b u z => by
        have nab : a2 ≠ b := fun y => by
          rw [← y, hne] at z
          cases z
        rw [causeFrom_other nab]
        exact k b u z
      obtain ⟨r1, _⟩ := r (model X.prog X.w) s6.heap (K1.kIn.keeps k)
      obtain ⟨_, r2⟩ := r (model X.prog X.w) (causeFrom s6.heap a2 a) (K1.kIn.keeps k4)
      obtain ⟨rc, _⟩ := hrs (model X.prog X.w) s6.heap (K1.kIn.keeps k)
      have P1 := (K1.pin (a, oe4) (List.mem_append_left _ List.mem_cons_self)).1
      have nap : a ≠ a2 := fun z => by
        rw [← z, P1] at hne
        cases hne
      obtain ⟨ha4, hd4'⟩ := causeFrom_at (x1 := a) ha hd
      have h12 : (((vs.setIfInBounds 3 (Value.ref a)).setIfInBounds 4 (Value.bool true)).setIfInBounds 2 (Value.ref a))[1]? = some Value.none := set_other (by decide) (set_other (by decide) (set_other (by decide) h1))
      have I6 := K1.landed (B := sJ.heap) (s' := s6) (fun b o e _ => e) k (.of_keeps k) os2 ag2
      obtain ⟨m, hn, hlk⟩ := id I6.loc
      have hlt : i < σ'.length := by
        have e1 := J.len
        have e2 := (List.getElem?_eq_some_iff.mp hi).1
        omega
      obtain ⟨u1, ru1, hlook⟩ := hlk i n (.ref a) hi (List.getElem?_set_self hlt) (.inl hln)
      have eu : u1 = .ref a := ru1
      subst eu
      have hm : m n = some (.ref a) := by
        rcases hlook with ⟨_, z⟩ | ⟨z, _⟩
        · exact z
        · have hln' : X.env.kindOf n = some .local := hln
          rcases z with z | z
          · rw [show X.env.kindOf n = some .cell from z] at hln'
            cases hln'
          · rw [show X.env.kindOf n = some .free from z] at hln'
            cases hln'
      have KX : Inv X pins (σ'.set i (some (.ref a))) H2 sJ := unsuiteX (Inv.unwish (X := suiteX X a ((a, oe4) :: (X.pn ++ pins))) K1) ok
      refine ⟨a2, oe, vs, cls2, rfl, ha, hz.1, hd, h1, hi5, nap, ⟨rfl, oe4, vs4, k _ _ P1, hd4, hz4.2.2 vs4 hd4⟩, r1, r2, ⟨oe4, cls, k _ _ P1, hz4.1, rc⟩, fun Q' q' => ?_, L2.XE.new KX (fun b u z => ?_) hne (Heap.get?_update_self _ ha4 (Obj.isFreed_of_fields (Obj.data_mapFields hd4' _)))
        ⟨by rw [Obj.cls_mapFields, Obj.cls_mapFields, Obj.cls_mapFields]; exact hz.1, by rw [HandSPX.dict_mapFields, HandSPX.dict_mapFields, HandSPX.dict_mapFields]; exact hz.2.1⟩ (Obj.data_mapFields hd4' _) h12 na2 os2 ag2 q⟩
      · exact wpAny_bind (wpAny_Name (wpAny_loadName_local ok.kind hln hn hm (wpAny_bind (wpAny_standAt (wpAny_pure q')))) hdn)
      · have nab : a2 ≠ b := fun y => by
          rw [← y, hne] at z
          cases z
        show ((causeFrom s6.heap a2 a).update a2 (Obj.mapFields (·.setIfInBounds 2 (.ref a)))).get? b = some u
        rw [Heap.get?_update_other _ _ nab]
        exact k4 b u z
    refine wpAny_mono run (fun f s6 hf => hf.elim) (fun u s6 xe => ?_)
    obtain ⟨a2, B2, sI2, pins2, σ2, H2, cls2, d2, rfl, I2, nb2, up2, sky2, na2, os2, ag2, w2⟩ := xe
    rw [hs] at sky2
    have fin : ∀ h5, HandSPX.HeldZ B2 (X.env :: X.outer) a2 (Zc cls2 d2) X.env.locals h5 → s6.heap.UpToSlots h5 →
        wpAny (model X.prog X.w) (X.A.mark (some (.ref a))) (do bindName X.env n .none; unbindBehindTheSuite X.env n pos')
          (fun _ s₄ => wpAny (model X.prog X.w) (X.A.mark (some (.ref a))) (passOn "try.except-as" (.ref a2) X.env : Sem Flow) (fun _ _ => False) (notedBy (model X.prog X.w) (X.A.mark (some (.ref a))) X.env (cameBackBy (model X.prog X.w) X.A X.env X.xe)) s₄)
          (fun y s₄ => wpAny (model X.prog X.w) (X.A.mark (some (.ref a))) (setFlight (.ref a2) none) (fun _ s₅ => (notedBy (model X.prog X.w) (X.A.mark (some (.ref a))) X.env (cameBackBy (model X.prog X.w) X.A X.env X.xe)) y s₅) (notedBy (model X.prog X.w) (X.A.mark (some (.ref a))) X.env (cameBackBy (model X.prog X.w) X.A X.env X.xe)) s₄) { s6 with heap := h5 } := fun h5 hh up5 => by
      refine XE.unbound (W := Wout) hs hf hN hi hln I2 nb2 (up2.trans up5) hh fun sI' h6 I6 nb6 up6 hh6 os6 => ?_
      obtain ⟨_, _, _, oe, vs, T, oT, ts', he', hz, hd, h1, hr⟩ := id hh6
      unfold PySem.passOn
      refine wpAny_bind (wpAny_field he' hd h1 ?_)
      rw [if_neg (show ¬ ((Value.ref T == Value.none) = true) from by simp)]
      have fin2 : wpAny (model X.prog X.w) (X.A.mark (some (.ref a))) (setFlight (.ref a2) X.env.frame) (fun _ s4 => wpAny (model X.prog X.w) (X.A.mark (some (.ref a))) (throw (.ref a2) : Sem Flow) (fun _ _ => False) (notedBy (model X.prog X.w) (X.A.mark (some (.ref a))) X.env (cameBackBy (model X.prog X.w) X.A X.env X.xe)) s4) (notedBy (model X.prog X.w) (X.A.mark (some (.ref a))) X.env (cameBackBy (model X.prog X.w) X.A X.env X.xe)) { s6 with heap := h6, toks := s6.toks + 1 } := by
        rw [hf]
        refine HandSPX.setFlight_onZ hh6 fun h7 hh7 up7 => wpAny_throw (hpa (some (.ref a)) _ _ (tk _ _ ?_))
        exact ⟨a2, B2, sI', pins2, σ2.set i none, H2, cls2, d2, rfl, I6, nb6, up6.trans up7, .inr (.inr (by rw [hs]; exact hh7)), na2, os2.trans os6.symm, ag2, w2⟩
      first
        | exact wpAny_bind (wpAny_pure (wpAny_bind fin2))
        | exact wpAny_bind fin2
    have hfr2 : (X.A.mark (some (.ref a))).frames = some (X.env :: X.outer) := hfr
    rcases sky2 with ⟨hB, hn, hl, oe, vs, he', hz, hd, h1⟩ | fl | hh
    · exact HandSPX.look_newZ Zc.steady hfr2 hl hf he' hB hn hd h1 hz fin
    · exact HandSPX.looks_onZ Zc.steady hfr2 hf fl fin
    · exact HandSPX.againZ hf hh.2.2.2 (fin s6.heap hh (Heap.UpToSlots.refl _))
  · cases f with
    | next =>
      obtain ⟨σ', H', J', q⟩ := hsp
      exact wpAny_execs_nil ⟨σ', H', J'.ofTry ok, q⟩
    | brk =>
      obtain ⟨σ', H', J', q⟩ := hsp
      exact ⟨σ', H', J'.ofTry ok, q⟩
    | cont =>
      obtain ⟨σ', H', J', q⟩ := hsp
      exact ⟨σ', H', J'.ofTry ok, q⟩
    | ret u =>
      obtain ⟨v, σ', H', J', r, q⟩ := hsp
      exact ⟨v, σ', H', J'.ofTry ok, r, q⟩
end L3
set_option Elab.async false
set_option linter.all false
set_option maxRecDepth 100000
set_option maxHeartbeats 4000000
namespace L3
open PySem PySem.Spec PyProof.Rows L2
def wFst (K : PySem.W.Frag) (c : Value) (i : Nat) (ts : Addr → Value → Option Addr → TS) (D : Ends) : WX := fun cls d σ H =>
  PySem.W.exmOne K cls c = some true ∧ ∀ a, H a = none → ts a cls d { nx := fun σ' H' => D.nx (σ'.set i none) H', rt := D.rt, bk := fun σ' H' => D.bk (σ'.set i none) H', ct := fun σ' H' => D.ct (σ'.set i none) H' } (σ.set i (some (.ref a))) H
def tTryFst (K : PySem.W.Frag) (c : Value) (i : Nat) (ts : Addr → Value → Option Addr → TS) (tb : WX → TS) : TS := fun D σ H => tb (wFst K c i ts D) D σ H
section
variable {X : Cx} {x n : Str} {c : Value} {i : Nat} {body suite : List Stmt} {b₀ : Stmt} {np pos pos' : Pos} {tb : WX → TS} {ts : Addr → Value → Option Addr → TS} {hds : List ExceptHandler}
theorem ps_try_fst (hs : X.stack = X.env :: X.outer) (hf : X.env.frame = some X.env.locals) (hN : X.N.Nodup) (hi : X.N[i]? = some n) (hln : X.env.kindOf n = some .local) (hc : Names X x c)
    (hb : ∀ (W : WX) (pn : List (Addr × Obj)) (xe : Value → Shared → Prop), Takes (X.tr pn xe) W → PassesOwn (model X.prog X.w) X.A X.env xe → PSs (X.tr pn xe) body (tb W))
    (hsu : ∀ (a : Addr) (oe : Obj) (cls : Value) (d : Option Addr) (pn : List (Addr × Obj)), Zc cls d oe → (∃ vs, oe.data = .fields vs) → PSs (X.suite a ((a, oe) :: pn)) (b₀ :: suite) (ts a cls d)) :
    PS X (.Try body (.ExceptHandler (some (.Name x np)) (some n) (b₀ :: suite) pos' :: hds) [] [] pos) (tTryFst X.K c i ts tb) := by
  refine ⟨fun pins s σ H D I h => ?_⟩
  have ok := I.ok
  have hfr : X.A.frames = some (X.env :: X.outer) := by rw [ok.frames, hs]
  refine wpAny_Try_except ?_
  refine wpAny_mono ((hb (wFst X.K c i ts D) (X.pn ++ pins) (fun e s₁ => wpAny (model X.prog X.w) X.A (noteFrame e X.env) (fun _ s₂ => wpAny (model X.prog X.w) X.A (setFlight e none) (fun _ s₃ =>
    wpAny (model X.prog X.w) X.A (handleBy e X.env (.ExceptHandler (some (.Name x np)) (some n) (b₀ :: suite) pos' :: hds)) (SP X pins D) X.xe s₃) X.xe s₂) X.xe s₁) (fun u s' xx => ?_) PassesOwn.looking).run [] s σ H D (I.toTry _) h) (fun f s1 hsp => ?_) (fun e s1 he => he)
  · obtain ⟨a, B, sI, pins', σ', H', cls, d, rfl, J', nb, up, sky, na, os, ag, hb1, hyes⟩ := xx
    have J : Inv X pins σ' H' sI := J'.ofTry ok
    have sky' : Sky B (X.env :: X.outer) a (Zc cls d) X.env.locals s'.heap := by rw [← hs]; exact sky
    show wpAny (model X.prog X.w) X.A (noteFrame (.ref a) X.env) _ _ _
    refine Sky.land Zc.steady hfr hf sky' fun h3 fl3 up3 => ?_
    have J3 : Inv X pins σ' H' { s' with heap := h3 } := J.landed nb fl3.1 (up.trans up3) os ag
    obtain ⟨oe3, vs3, he3, hz3, hd3⟩ := fl3.there
    have nfr : a ∉ frs (X.env :: X.outer) := fun hm => by
      obtain ⟨_, o', e', hnf⟩ := fl3.2.2.1.mem hm
      rw [he3] at e'
      cases e'
      exact hnf _ hd3
    have nL : a ≠ X.env.locals := fun z => nfr (List.mem_filterMap.mpr ⟨X.env, List.mem_cons_self, by rw [hf, z]⟩)
    have nF : a ∉ X.fs := fun hm => by
      obtain ⟨e, he, q⟩ := List.mem_filterMap.mp hm
      exact nfr (List.mem_filterMap.mpr ⟨e, List.mem_cons_of_mem _ he, q⟩)
    have S3 := J3.suite he3 hd3 na nL nF
    refine wpAny_handleBy_cons (codeAny_handlers_test ?_) (by intro q; cases q)
    have LT : PySem.W.Looks (model X.prog X.w) h3 (typeOf (.ref a)) cls := fun A Q E s k q => wpAny_typeOf_ref (k _ _ he3) (by rw [hz3.1]; exact q)
    have LM := PySem.W.exm_one (M := model X.prog X.w) (J3.kIn) LT hb1
    have test : ∀ {Q : Value → Shared → Prop} {E : Value → Shared → Prop}, Q c { s' with heap := h3 } → wpAny (model X.prog X.w) (X.A.mark (some (.ref a))) (eval (.Name x np) X.env) Q E { s' with heap := h3 } := fun {Q E} q => by
      obtain ⟨hg, hdbg, hm | ⟨hm, hv, hnn⟩⟩ := hc
      · exact ld_glob (X := X.suite a ((a, oe3) :: (X.pn ++ pins))) S3 hg hm q hdbg
      · exact ld_blt (X := X.suite a ((a, oe3) :: (X.pn ++ pins))) S3 hg hm hv q hnn hdbg
    refine test (LM.here ?_)
    refine codeAny_handlers_suite_as ?_
    refine HandSPX.lands_againZ fl3 fun h4 fl4 up4 => ?_
    have J4 : Inv X pins σ' H' { s' with heap := h4 } := J.landed nb fl4.1 ((up.trans up3).trans up4) os ag
    obtain ⟨oe4, vs4, he4, hz4, hd4⟩ := fl4.there
    have S4 := J4.suite he4 hd4 na nL nF
    refine store_ok (X := X.suite a ((a, oe4) :: (X.pn ++ pins))) (v := .ref a) S4 hN hi (.inl hln) rfl (fun s5 S5 => ?_) (.inr hln)
    refine wpAny_mono ((hsu a oe4 cls d (X.pn ++ pins) hz4 ⟨_, hd4⟩).run [] s5 _ H' _ S5 (hyes a na)) (fun f s6 hsp => ?_) (fun _ _ z => False.elim z)
    have end_ : ∀ {σ6 : L2.St} {H6 : Hp} {Q : Shared → Prop}, Inv (X.suite a ((a, oe4) :: (X.pn ++ pins))) [] σ6 H6 s6 → (∀ s7, Inv X pins (σ6.set i none) H6 s7 → Q s7) →
        wpAny (model X.prog X.w) X.A (do bindName X.env n .none; unbindBehindTheSuite X.env n pos') (fun _ s7 => Q s7) X.xe s6 := fun {σ6 H6 Q} S6 hq => gone_ok (S6.unsuite ok) hN hi hln hq
    cases f with
    | next =>
      obtain ⟨σ6, H6, S6, q6⟩ := hsp
      exact end_ S6 fun s7 J7 => ⟨_, _, J7, q6⟩
    | brk =>
      obtain ⟨σ6, H6, S6, q6⟩ := hsp
      exact end_ S6 fun s7 J7 => ⟨_, _, J7, q6⟩
    | cont =>
      obtain ⟨σ6, H6, S6, q6⟩ := hsp
      exact end_ S6 fun s7 J7 => ⟨_, _, J7, q6⟩
    | ret u =>
      obtain ⟨v6, σ6, H6, S6, r6, q6⟩ := hsp
      exact end_ S6 fun s7 J7 => ⟨_, _, _, J7, r6, q6⟩
  · cases f with
    | next =>
      obtain ⟨σ6, H6, S6, q6⟩ := hsp
      exact wpAny_execs_nil ⟨_, _, S6.ofTry ok, q6⟩
    | brk =>
      obtain ⟨σ6, H6, S6, q6⟩ := hsp
      exact ⟨_, _, S6.ofTry ok, q6⟩
    | cont =>
      obtain ⟨σ6, H6, S6, q6⟩ := hsp
      exact ⟨_, _, S6.ofTry ok, q6⟩
    | ret u =>
      obtain ⟨v6, σ6, H6, S6, r6, q6⟩ := hsp
      exact ⟨_, _, _, S6.ofTry ok, r6, q6⟩
end
/-- o.m(e, ..) of a built-in type, the written part named -/
theorem pe_bmK {X : Cx} (K : PySem.W.Frag) {T id : String} {name : Str} {r : V → List V → Hp → VK → Prop} {o e : Expr} {es : List Expr} {to : TE} {t : TA} {apos cpos : Pos} (pa : PlainAttrs T) (slot : Slot T name id) (hty : typeOf (.builtin id) = pure (.type "method_descriptor")) (hm : MtR X id r) (ho : PE X o to) (ha : PA X (e :: es) t)
    (hK : X.K = K := by rfl)
    (hbase : attributeBase o name X.env (eval o X.env) = eval o X.env := by rfl)
    (hfew : ((backTo cpos (starEach (e :: es) X.env)).all (fun x => !x.1) && (backToKw cpos (keywordEach [] X.env)).all (fun x => x.1.isSome)
      && decide ((e :: es).length + ([] : List Keyword).length + (if ([] : List Keyword).isEmpty then 0 else 1) < 30)) = true := by rfl)
    (hline : (apos.endLine == cpos.line) = true := by rfl) (hs : starEach (e :: es) X.env = (false, eval e X.env) :: starEach es X.env := by rfl) (hplain : (backTo cpos (starEach es X.env)).any (·.1) = false := by rfl) :
    PE X (.Call (.Attribute o name apos) (e :: es) [] cpos) (tBM K T r to t) := hK ▸ pe_bm pa slot hty hm ho ha hbase hfew hline hs hplain
end L3
set_option Elab.async false
set_option linter.all false
set_option maxRecDepth 100000
set_option maxHeartbeats 4000000
namespace L3
open PySem PySem.Spec PyProof.Rows L2
def Stays (H H' : Hp) (x : V) : Prop := ∀ a o, x = .ref a → H a = some o → H' a = some o
theorem tyOf_at {K : PySem.W.Frag} {H H' : Hp} {x : V} {t : Value} (e : Stays H H' x) (h : TyOf K H x t) : TyOf K H' x t := by
  cases h with
  | non => exact .non
  | bl x => exact .bl x
  | int i => exact .int i
  | str x => exact .str x
  | flt x => exact .flt x
  | lst h => exact .lst (e _ _ rfl h)
  | frz h => exact .frz (e _ _ rfl h)
  | tup h => exact .tup (e _ _ rfl h)
  | dK h => exact .dK (e _ _ rfl h)
  | dT h => exact .dT (e _ _ rfl h)
  | ins h cl ha hn htk hm => exact .ins (e _ _ rfl h) cl ha hn htk hm
theorem tyX_at {K : PySem.W.Frag} {H H' : Hp} {x : V} {t : Value} (e : Stays H H' x) (h : TyX K H x t) : TyX K H' x t := by
  cases h with
  | base h => exact .base (tyOf_at e h)
  | byt b => exact .byt b
  | set h => exact .set (e _ _ rfl h)
  | kList h c => exact .kList h c
  | kTuple h c => exact .kTuple h c
  | kDict h c => exact .kDict h c
  | fTuple h => exact .fTuple (e _ _ rfl h)
  | fDict h => exact .fDict (e _ _ rfl h)
theorem Cl.at {K : PySem.W.Frag} {H H' : Hp} {x : V} (c : Cl K H x) (e : Stays H H' x) : Cl K H' x := let ⟨t, b, d, h1, h2⟩ := c; ⟨t, b, d, tyX_at e h1, h2⟩
end L3
set_option Elab.async false
set_option linter.all false
set_option maxRecDepth 100000
set_option maxHeartbeats 4000000
namespace L3
open PySem PySem.Spec PyProof.Rows L2
def obsA (as : List Addr) (xf : List Fx) (fn : List He.DefD) (g : Addr → Option Obj) : He.AlD := obsX xf fn (He.frG g as)
def hookA (as : List Addr) (xf : List Fx) (fn : List He.DefD) : PySem.W.Hook where
  α := He.AlD
  obs := fun s => obsA as xf fn s.heap.get?
  val := fun _ => He.valD fn
  says := fun _ h => ∃ K : PySem.W.Frag, K.In h ∧ SaysX xf fn K
  of := fun _ _ e => ⟨_, He.frG_in, e⟩
  keeps := fun _ _ _ ⟨K, hK, c⟩ k => ⟨K, PySem.W.Frag.In.keeps hK k, c⟩
theorem obsA_eq {as : List Addr} {xf : List Fx} {fn : List He.DefD} {g : Addr → Option Obj} {s : Shared} (h : ∀ a, g a = s.heap.get? a) : obsA as xf fn g = (hookA as xf fn).obs s := by
  have e : g = s.heap.get? := funext h
  rw [e] <;> rfl
end L3
noncomputable section
namespace HandSHeadRun
open PySem PySem.W PySem.Calls PyProof.Rows
abbrev endR (r : OpenRow) (M : Nat) (w : World) (os : OsState) : Option SharedT := endF (stepQ (denQ tabQ) r.prog w) M r.prog w os
/-- what the machine's own looks say behind the run -/
def RunA (r : OpenRow) (q : Program) (M : Nat) (loose : List PySem.Str) (w : World) : Prop :=
  ∀ os : OsState, (endR r M w os).map (fun s => (looksF r.prog (boot_heap w.params) s.abs, seenQ q loose (importedModules r.prog.main.body) (fun s => xlAt q [] s && recOk r.toRowW.records s) s.abs)) = some (true, openGood q loose)
/-- some facts of what stands behind the run -/
def RunB (r : OpenRow) (M : Nat) (fs : SharedT → Bool) (w : World) : Prop := ∀ os : OsState, (endR r M w os).map fs = some true
/-- the defs' own values -/
def RunC (r : OpenRow) (H : Hook) (ob : SharedT → H.α) (M : Nat) (w : World) : Prop := ∀ os : OsState, (endR r M w os).map ob = some (H.val w)
theorem runEq_of {r : OpenRow} {q : Program} {H : Hook} {ob : SharedT → H.α} {M : Nat} {loose : List PySem.Str} {w : World} (a : RunA r q M loose w) (c : RunC r H ob M w) : RunEq r q H ob M loose w := fun os => by
  have h1 := a os
  have h2 := c os
  show (endR r M w os).map _ = _
  cases e : endR r M w os with
  | none =>
    rw [e] at h1
    cases h1
  | some s =>
    rw [e] at h1 h2
    have g1 := Option.some.inj h1
    have g2 := Option.some.inj h2
    show some _ = some _
    rw [← g2]
    have e1 := congrArg Prod.fst g1
    have e2 := congrArg Prod.snd g1
    dsimp only at e1 e2 ⊢
    rw [e1, e2]
end HandSHeadRun
end
namespace L3
open PySem PySem.Spec PyProof.Rows L2 HandSHeadRun
/-- the facts in three parts: two of the Bools, one of the defs -/
theorem runC_of {r : PySem.W.OpenRow} {as : List Addr} {xf xf1 xf2 : List Fx} {fn : List He.DefD} {M : Nat} {w : World} (e : xf = xf1 ++ xf2)
    (a : RunB r M (fun s => xf1.all fun p => p (He.frG (getT s) as)) w) (b : RunB r M (fun s => xf2.all fun p => p (He.frG (getT s) as)) w)
    (c : ∀ os : OsState, (endR r M w os).map (fun s => (fn.all fun d => d.ok (He.frG (getT s) as), fn.map fun d => He.fnW (He.frG (getT s) as) d.at_)) = some (true, fn.map He.DefD.val)) :
    RunC r (hookA as xf fn) (fun s => obsA as xf fn (getT s)) M w := fun os => by
  have h1 := a os
  have h2 := b os
  have h3 := c os
  cases e2 : endR r M w os with
  | none =>
    rw [e2] at h1
    cases h1
  | some s =>
    rw [e2] at h1 h2 h3
    have g1 : (xf1.all fun p => p (He.frG (getT s) as)) = true := Option.some.inj h1
    have g2 : (xf2.all fun p => p (He.frG (getT s) as)) = true := Option.some.inj h2
    have g3 := Option.some.inj h3
    have e3 := congrArg Prod.fst g3
    have e4 := congrArg Prod.snd g3
    dsimp only at e3 e4
    show some (obsA as xf fn (getT s)) = some (He.valD fn)
    unfold obsA obsX He.valD
    rw [e, List.all_append, g1, g2, e3, e4]
    rfl
end L3
set_option Elab.async false
set_option linter.all false
set_option maxRecDepth 100000
set_option maxHeartbeats 4000000
namespace L3
open PySem PySem.Spec PyProof.Rows L2
end L3
namespace L3
open PySem PySem.Spec PyProof.Rows L2
/-- at a a list or a tuple of these -/
def SqS (K : PySem.W.Frag) (H : Hp) (a : Addr) (xs : List V) : Prop := SqL K H a xs ∨ SqT K H a xs
theorem SqS.at {K : PySem.W.Frag} {H H' : Hp} {a : Addr} {xs : List V} (h : SqS K H a xs) (e : Stays H H' (.ref a)) : SqS K H' a xs := by
  rcases h with ((h | ⟨o, h⟩) | h) | ((h | ⟨o, h⟩) | h)
  · exact .inl (.inl (.inl (e _ _ rfl h)))
  · exact .inl (.inl (.inr ⟨o, e _ _ rfl h⟩))
  · exact .inl (.inr h)
  · exact .inr (.inl (.inl (e _ _ rfl h)))
  · exact .inr (.inl (.inr ⟨o, e _ _ rfl h⟩))
  · exact .inr (.inr h)
theorem stays_ex {H H' : Hp} {x : V} (e : Ex H H') : Stays H H' x := fun a o _ h => e a o h
theorem SqS.mono {K : PySem.W.Frag} {H H' : Hp} {a : Addr} {xs : List V} (h : SqS K H a xs) (e : Ex H H') : SqS K H' a xs := h.at (stays_ex e)
end L3
set_option Elab.async false
set_option linter.all false
set_option maxRecDepth 100000
set_option maxHeartbeats 4000000
namespace L3
open PySem PySem.Spec PyProof.Rows L2
end L3
set_option Elab.async false
set_option linter.all false
set_option maxRecDepth 100000
set_option maxHeartbeats 4000000
namespace L3
open PySem PySem.Spec PySem.Calls PyProof.Rows
open L2
abbrev SpP := Addr × Obj → Sp
structure FbP (P : Program) (w : World) (K : PySem.W.Frag) (mg : Str → Option Value) (base : Heap) (k : Nat) (f : Addr) (fd : FuncData) (ps : List Str) (sp : SpP) : Prop where
  len : ∀ p vs H Q E, sp p vs H Q E → vs.length = ps.length
  run : ∀ (A : Around) (outer : List Env) (s : Shared) (H : Hp) (args : Args) (us : List Value) (vs : List V) (Q : VK) (E : XK) (p : Addr × Obj), L2H.RoomH k A → L2H.PinOk outer H s p → Env0 P w K mg base A outer s H → BindsTo s fd args (ps.zip us) → Vals vs us → sp p vs H Q E →
    codeAny (model P w) A (.call (.ref f) args) (CR (L2.CX P w) outer P w H s Q E) s
section
variable {P : Program} {w : World} {K : PySem.W.Frag} {mg : Str → Option Value} {base : Heap} {x qual : Str} {params : Arguments} {body : List Stmt} {scope : Scope} {dvs : List V} {kws : List (Str × V)} {f : Addr} {fd : FuncData} {k : Nat} {ps N : List Str} {sp : SpP}
/-- such a def called with all parameters by place -/
def FcP (P : Program) (w : World) (K : PySem.W.Frag) (mg : Str → Option Value) (base : Heap) (k : Nat) (f : Addr) (sp : SpP) : Prop :=
  ∀ (A : Around) (outer : List Env) (s : Shared) (H : Hp) (us : List Value) (vs : List V) (Q : VK) (E : XK) (p : Addr × Obj), L2H.RoomH k A → L2H.PinOk outer H s p → Env0 P w K mg base A outer s H → Vals vs us → sp p vs H Q E →
    codeAny (model P w) A (.call (.ref f) ⟨us, []⟩) (CR (L2.CX P w) outer P w H s Q E) s
theorem FcP.mono {j : Nat} (F : FcP P w K mg base j f sp) (h : j ≤ k) : FcP P w K mg base k f sp := fun A outer s H us vs Q E p hr => F A outer s H us vs Q E p (hr.mono h)
theorem FbP.all (F : FbP P w K mg base k f fd ps sp) (hb : Binds K fd ps []) : FcP P w K mg base k f sp := fun A outer s H us vs Q E p hr hp e0 r h => by
  have KX : K.In s.heap := e0.mod.kin.keeps fun b o e => (e0.bs b o e).1
  have l2 : us.length = ps.length := by rw [← r.length]; exact F.len _ _ _ _ _ h
  have b := hb s us KX (by rw [List.append_nil]; exact l2)
  rw [List.append_nil] at b
  exact F.run A outer s H ⟨us, []⟩ us vs Q E p hr hp e0 b r h
end
end L3
set_option Elab.async false
set_option linter.all false
set_option maxRecDepth 100000
set_option maxHeartbeats 4000000
namespace L3
open PySem PySem.Spec PyProof.Rows L2 PySem.SeqAt PySem.Calls
end L3
set_option Elab.async false
set_option linter.all false
set_option maxRecDepth 100000
set_option maxHeartbeats 4000000
namespace L3
open PySem PySem.Spec PyProof.Rows L2 PySem.SeqAt PySem.Calls
end L3
set_option Elab.async false
set_option linter.all false
set_option maxRecDepth 100000
set_option maxHeartbeats 4000000
namespace L3
open PySem PySem.Spec PyProof.Rows L2 PySem.SeqAt PySem.Calls
end L3
set_option Elab.async false
set_option linter.all false
set_option maxRecDepth 100000
set_option maxHeartbeats 4000000
namespace L3
open PySem PySem.Spec PyProof.Rows L2 PySem.SeqAt PySem.Calls
end L3
set_option Elab.async false
set_option linter.all false
set_option maxRecDepth 100000
set_option maxHeartbeats 4000000
namespace L3
open PySem PySem.Spec PyProof.Rows L2 PySem.SeqAt PySem.Calls
end L3
set_option Elab.async false
set_option linter.all false
set_option maxRecDepth 100000
set_option maxHeartbeats 4000000
namespace L3
open PySem PySem.Spec PyProof.Rows L2 PySem.SeqAt PySem.Calls
end L3
set_option Elab.async false
set_option linter.all false
set_option maxRecDepth 100000
set_option maxHeartbeats 4000000
namespace L3
open PySem PySem.Spec PyProof.Rows L2
section
variable {P : Program} {w : World} {A : Around} {E : Value → Shared → Prop} {s : Shared}
open PySem.Froz
/-- the set of texts at a: its members, in some order -/
def SetT (P : Program) (w : World) (h : Heap) (a : Addr) (l : List Str) : Prop := ∃ D : SD, h.get? a = some (sObj "set" D) ∧ TxOk P w D l ∧ l.length < scanBound ∧ Ris D.2.2.place.toList ∧ (w.params.followText "set-order" = true ∨ D.2.2.led = true)
theorem SetT.at {h h' : Heap} {a : Addr} {l : List Str} (R : SetT P w h a l) (k : ∀ o, h.get? a = some o → h'.get? a = some o) : SetT P w h' a l := by
  obtain ⟨D, ho, r⟩ := R
  exact ⟨D, k _ ho, r⟩
end
end L3
set_option Elab.async false
set_option linter.all false
set_option maxRecDepth 100000
set_option maxHeartbeats 4000000
namespace L3
open PySem PySem.Spec PySem.Calls PyProof.Rows L2
end L3
set_option Elab.async false
set_option linter.all false
set_option maxRecDepth 100000
set_option maxHeartbeats 4000000
namespace L3
open PySem PySem.Spec PyProof.Rows L2
end L3
set_option Elab.async false
set_option linter.all false
set_option maxRecDepth 100000
set_option maxHeartbeats 4000000
namespace L3
open PySem PySem.Spec PyProof.Rows L2
end L3
set_option Elab.async false
set_option linter.all false
set_option maxRecDepth 100000
set_option maxHeartbeats 4000000
namespace L3
open PySem PySem.Spec PyProof.Rows L2 PySem.SeqAt PySem.Calls
/-- the pairs of two lists stand at ts -/
def PrsAt (xs ys : List V) (ts : List Addr) (H : Hp) : Prop := ∀ (j : Nat) (t : Addr), ts[j]? = some t → ∃ x y, xs[j]? = some x ∧ ys[j]? = some y ∧ H t = some (.tup [x, y])
theorem PrsAt.mono {xs ys : List V} {ts : List Addr} {H H' : Hp} (h : PrsAt xs ys ts H) (e : Ex H H') : PrsAt xs ys ts H' := fun j t hj => let ⟨x, y, a, b, c⟩ := h j t hj; ⟨x, y, a, b, e _ _ c⟩
/-- how a zip of two lists stands, its last pair held or not -/
def ZlSt (a b z TI TO i1 i2 : Addr) (i : Nat) (H : Hp) (h : Heap) : Prop :=
  IsPair h TI (.ref i1) (.ref i2) ∧ h.IsListIter i1 a i ∧ h.IsListIter i2 b i ∧ (∃ x y, IsPair h TO x y) ∧ (IsZip h z TI TO .none ∨ ∃ T f xs, IsZipHeld h z TI TO T f ∧ H T = some (.tup xs))
section
variable {X : Cx} {pins : List (Addr × Obj)} {σ : L2.St} {a b z TI TO i1 i2 S : Addr}
theorem ZlSt.at {i : Nat} {H H' : Hp} {h h' : Heap} (s : ZlSt a b z TI TO i1 i2 i H h) (k : ∀ c ∈ [z, TI, TO, i1, i2], ∀ o, h.get? c = some o → h'.get? c = some o) (e : ∀ T xs, H T = some (.tup xs) → H' T = some (.tup xs)) : ZlSt a b z TI TO i1 i2 i H' h' := by
  obtain ⟨p, l1, l2, ⟨x, y, t⟩, r⟩ := s
  refine ⟨k TI (by simp) _ p, l1.at fun o q => k i1 (by simp) o q, l2.at fun o q => k i2 (by simp) o q, ⟨x, y, k TO (by simp) _ t⟩, ?_⟩
  rcases r with r | ⟨T, f, xs, r, t⟩
  · exact .inl (k z (by simp) _ r)
  · exact .inr ⟨T, f, xs, k z (by simp) _ r, e _ _ t⟩
end
end L3
set_option Elab.async false
set_option linter.all false
set_option maxRecDepth 100000
set_option maxHeartbeats 4000000
namespace L3
open PySem PySem.Spec PyProof.Rows L2
end L3
namespace PySem
open Calls AutoSeq1
end PySem
namespace L3
open PySem PySem.Spec PyProof.Rows L2
end L3
set_option Elab.async false
set_option linter.all false
set_option maxRecDepth 100000
set_option maxHeartbeats 4000000
namespace L3
open PySem PySem.Spec PyProof.Rows L2
end L3
set_option Elab.async false
set_option linter.all false
set_option maxRecDepth 100000
set_option maxHeartbeats 4000000
noncomputable section
namespace HandSHeadRun
open PySem PySem.W PySem.Calls PyProof.Rows
end HandSHeadRun
end
set_option Elab.async false
set_option linter.all false
set_option maxRecDepth 100000
set_option maxHeartbeats 4000000
namespace L3
open PySem PySem.Spec PyProof.Rows L2
end L3
set_option Elab.async false
set_option linter.all false
set_option maxRecDepth 100000
set_option maxHeartbeats 4000000
namespace L3
open PySem PySem.Spec PyProof.Rows L2
open PySem.AutoSeq1 (wpAny_loadPart')
end L3
set_option Elab.async false
set_option linter.all false
set_option maxRecDepth 100000
set_option maxHeartbeats 4000000
namespace L3
open PySem PySem.Spec PySem.Calls PySem.HandSPX
end L3
namespace L3
open PySem PySem.Spec PySem.Calls PyProof.Rows L2
end L3
set_option Elab.async false
set_option linter.all false
set_option maxRecDepth 100000
set_option maxHeartbeats 4000000
namespace L3
open PySem PySem.Spec PyProof.Rows L2
end L3
set_option Elab.async false
set_option linter.all false
set_option maxRecDepth 100000
set_option maxHeartbeats 4000000
namespace L3
open PySem PySem.Spec PyProof.Rows L2
end L3
set_option Elab.async false
set_option linter.all false
set_option maxRecDepth 100000
set_option maxHeartbeats 4000000
namespace L3
open PySem PySem.Spec PyProof.Rows L2
end L3
set_option Elab.async false
set_option linter.all false
set_option maxRecDepth 100000
set_option maxHeartbeats 4000000
namespace L3
open PySem PySem.Spec PyProof.Rows L2
structure FbQ (P : Program) (w : World) (K : PySem.W.Frag) (mg : Str → Option Value) (base : Heap) (k : Nat) (f : Addr) (fd : FuncData) (ps : List Str) (sp : SpP) : Prop where
  len : ∀ p vs H Q E, sp p vs H Q E → vs.length = ps.length
  run : ∀ (A : Around) (outer : List Env) (s : Shared) (H : Hp) (args : Args) (us : List Value) (vs : List V) (Q : VK) (E : XK) (p : Addr × Obj), L2H.RoomH k A → L2H.Hot1 A p → L2H.PinOk outer H s p → Env0 P w K mg base A outer s H → BindsTo s fd args (ps.zip us) → Vals vs us → sp p vs H Q E →
    codeAny (model P w) A (.call (.ref f) args) (CR (L2.CX P w) outer P w H s Q E) s
section
variable {P : Program} {w : World} {K : PySem.W.Frag} {mg : Str → Option Value} {base : Heap} {x qual : Str} {params : Arguments} {body : List Stmt} {scope : Scope} {dvs : List V} {kws : List (Str × V)} {f : Addr} {fd : FuncData} {k : Nat} {ps N : List Str} {sp : SpP}
/-- such a def called with all parameters by place -/
def FcQ (P : Program) (w : World) (K : PySem.W.Frag) (mg : Str → Option Value) (base : Heap) (k : Nat) (f : Addr) (sp : SpP) : Prop :=
  ∀ (A : Around) (outer : List Env) (s : Shared) (H : Hp) (us : List Value) (vs : List V) (Q : VK) (E : XK) (p : Addr × Obj), L2H.RoomH k A → L2H.Hot1 A p → L2H.PinOk outer H s p → Env0 P w K mg base A outer s H → Vals vs us → sp p vs H Q E →
    codeAny (model P w) A (.call (.ref f) ⟨us, []⟩) (CR (L2.CX P w) outer P w H s Q E) s
theorem FcQ.mono {j : Nat} (F : FcQ P w K mg base j f sp) (h : j ≤ k) : FcQ P w K mg base k f sp := fun A outer s H us vs Q E p hr => F A outer s H us vs Q E p (hr.mono h)
theorem FbQ.all (F : FbQ P w K mg base k f fd ps sp) (hb : Binds K fd ps []) : FcQ P w K mg base k f sp := fun A outer s H us vs Q E p hr hot hp e0 r h => by
  have KX : K.In s.heap := e0.mod.kin.keeps fun b o e => (e0.bs b o e).1
  have l2 : us.length = ps.length := by rw [← r.length]; exact F.len _ _ _ _ _ h
  have b := hb s us KX (by rw [List.append_nil]; exact l2)
  rw [List.append_nil] at b
  exact F.run A outer s H ⟨us, []⟩ us vs Q E p hr hot hp e0 b r h
end
end L3
set_option Elab.async false
set_option linter.all false
set_option maxRecDepth 100000
set_option maxHeartbeats 4000000
namespace L3
open PySem PySem.Spec PyProof.Rows L2
end L3
set_option Elab.async false
set_option linter.all false
set_option maxRecDepth 100000
set_option maxHeartbeats 4000000
namespace HT
open PySem PySem.Spec PyProof.Rows
section
variable {prog : Program} {w : World} {A : Around} {E : Value → Shared → Prop} {s : Shared}
theorem sliceApplied_rev {sl : Addr} {vl vu vs : Value} {n : Nat} {Q : Int × Int × Nat → Shared → Prop} (hs : s.heap.IsSliceOf sl vl vu vs) (pl : IsPart vl none) (pu : IsPart vu none) (ps : IsPart vs (some (-1)))
    (h : Q ((n : Int) - 1, -1, Builtin.Slice.slicePlaces ((n : Int) - 1) (-1) (-1)) s) : wpAny (model prog w) A (Builtin.Slice.sliceApplied (.ref sl) (pure (n : Int))) Q E s := by
  obtain ⟨os, hos, hcs, hds⟩ := id hs
  unfold Builtin.Slice.sliceApplied Builtin.Slice.sliceFields
  refine wpAny_bind (wpAny_bind (wpAny_field hos hds (x := vl) rfl (wpAny_bind (wpAny_field hos hds (x := vu) rfl (wpAny_bind (wpAny_field hos hds (x := vs) rfl (wpAny_pure ?_)))))))
  refine wpAny_bind (slicePart_ ps ?_)
  show wpAny _ _ (if ((-1 : Int) == 0) = true then _ else _) _ _ s
  rw [if_neg (by decide)]
  refine wpAny_bind (slicePart_ pl (wpAny_bind (slicePart_ pu (wpAny_bind (wpAny_pure ?_)))))
  exact wpAny_pure h
theorem rev_pick (l : List Value) (h : l.length ≤ 2) : ((List.range (Builtin.Slice.slicePlaces ((l.toArray.size : Int) - 1) (-1) (-1))).filterMap fun (k : Nat) => l.toArray[((l.toArray.size : Int) - 1 + (k : Int) * (-1)).toNat]?) = l.toArray.toList.reverse := by
  match l, h with
  | [], _ => rfl
  | [a], _ =>
    have e : Builtin.Slice.slicePlaces ((([a] : List Value).toArray.size : Int) - 1) (-1) (-1) = 1 := by
      show Builtin.Slice.slicePlaces (((1 : Nat) : Int) - 1) (-1) (-1) = 1
      decide
    rw [e]
    simp
  | [a, b], _ =>
    have e : Builtin.Slice.slicePlaces ((([a, b] : List Value).toArray.size : Int) - 1) (-1) (-1) = 2 := by
      show Builtin.Slice.slicePlaces (((2 : Nat) : Int) - 1) (-1) (-1) = 2
      decide
    rw [e]
    simp [List.range_succ]
theorem getItem_tuple_rev {t sl : Addr} {items : Array Value} {vl vu vs : Value} {Q : Value → Shared → Prop} (ht : IsTup s.heap t items) (hs : s.heap.IsSliceOf sl vl vu vs) (pl : IsPart vl none) (pu : IsPart vu none) (ps : IsPart vs (some (-1)))
    (h2 : items.size ≤ 2)
    (h : Q (.ref s.heap.objs.size) { s with heap := s.heap.push { cls := .type "tuple", data := .seq items.toList.reverse.toArray } }) : wpAny (model prog w) A (getItem (.ref t) (.ref sl)) Q E s := by
  obtain ⟨os, hos, hcs, hds⟩ := id hs
  have hTs : s.TypeIs (.ref sl) "slice" := ⟨os, hos, hcs⟩
  have ep : ((List.range (Builtin.Slice.slicePlaces ((items.size : Int) - 1) (-1) (-1))).filterMap fun (k : Nat) => items[((items.size : Int) - 1 + (k : Int) * (-1)).toNat]?) = items.toList.reverse := by
    obtain ⟨l⟩ := items
    exact rev_pick l h2
  have hsz : sizeOk (.seq items.toList.reverse.toArray) := by
    show items.toList.reverse.toArray.size ≤ sizeLine
    rw [List.size_toArray, List.length_reverse, Array.length_toList, sizeLine_eq]
    omega
  unfold getItem
  try with_reducible refine wpAny_holding ?_
  first | refine wpAny_bind (wpAny_pure ?_) | skip
  refine wpAny_bind (wpAny_sequenceKey ht.typeIs (by decide) ?_)
  refine wpAny_bind (wpAny_callSpecial?_slot (name := Str.ofString "__getitem__") ht.typeIs PyProof.Rows.slot_tuple_getitem
    (wpAny_call_entry PyProof.Rows.slot_tuple_getitem ht.typeIs entry_tuple_getitem ?_ (args_tuple_getitem _ _)))
  show wpAny _ _ (Builtin.Tuple.tupleItemsOf (.ref t) >>= _) _ _ s
  refine wpAny_bind (tupleItemsOf_ ht ?_)
  refine wpAny_bind (wpAny_typeOf hTs ?_)
  rw [if_pos (by decide)]
  refine wpAny_bind (sliceApplied_rev hs pl pu ps ?_)
  have hno : ¬ ((((items.size : Int) - 1) == 0 && (-1 : Int) == 1 && (Builtin.Slice.slicePlaces ((items.size : Int) - 1) (-1) (-1)) == items.size) = true) := by
    intro q
    rw [Bool.and_eq_true, Bool.and_eq_true] at q
    exact absurd q.1.2 (by decide)
  show wpAny _ _ (if (((items.size : Int) - 1) == 0 && (-1 : Int) == 1 && (Builtin.Slice.slicePlaces ((items.size : Int) - 1) (-1) (-1)) == items.size) = true then _ else _) _ _ s
  rw [if_neg hno, ep]
  first
    | exact wpAny_bind (m := Builtin.Tuple.tupleExact _) (wpAny_newObj_type (wpAny_pure ⟨_, rfl, wpAny_pure h⟩) hsz)
    | exact wpAny_bind (m := Builtin.Tuple.tupleExact _) (wpAny_newObj_type (wpAny_bind (wpAny_pure (wpAny_pure ⟨_, rfl, wpAny_pure h⟩))) hsz)
    | exact wpAny_bind (wpAny_bind (m := Builtin.Tuple.tupleExact _) (wpAny_newObj_type (wpAny_pure (wpAny_pure ⟨_, rfl, wpAny_pure h⟩)) hsz))
    | exact wpAny_bind (wpAny_bind (m := Builtin.Tuple.tupleExact _) (wpAny_newObj_type (wpAny_pure ⟨_, rfl, wpAny_pure h⟩) hsz))
end
end HT
namespace L3
open PySem PySem.Spec PyProof.Rows L2
section
variable {X : Cx} {e : Expr} {te : TE} {k : Nat} {p1 p2 p3 pos : Pos}
/-- t[::-1], a tuple of two things at most -/
def tRevT (K : PySem.W.Frag) (te : TE) : TE := fun σ H Q => te σ H fun x H1 => ∃ a xs, x = .ref a ∧ SqT K H1 a xs ∧ xs.length ≤ 2 ∧ ∀ p, H1 p = none → Q (.ref p) (upd H1 p (.tup xs.reverse))
theorem pe_revT (he : PE X e te) : PE X (.Subscript e (.Slice none none (some (.UnaryOp .USub (.Constant (.int 1) k p1) p2)) p3) pos) (tRevT X.K te) := by
  refine ⟨fun pins s σ H Q I h => ?_⟩
  refine Subscript_ (thn (he.run pins s σ H _ I h) fun v s1 ⟨x, H1, I1, r1, q1⟩ => ?_)
  obtain ⟨a, xs, ex, hx, h2, q⟩ := q1
  subst ex
  cases r1
  have hst : PO X (some (.UnaryOp .USub (.Constant (.int 1) k p1) p2)) (tPart (tUn (rU fun i => .int (-i)) (tC (.int 1)))) := po_some (pe_un un_neg pe_int)
  refine wpAny_Slice (thn (po_none.run pins s1 σ H1 (fun o H2 => o = none ∧ H2 = H1) I1 ⟨rfl, rfl⟩) fun vl s2 ⟨l, H2, I2, pl, el, e2⟩ => ?_)
  subst el e2
  refine thn (po_none.run pins s2 σ H2 (fun o H3 => o = none ∧ H3 = H2) I2 ⟨rfl, rfl⟩) fun vu s3 ⟨u, H3, I3, pu, eu, e3⟩ => ?_
  subst eu e3
  refine thn (hst.run pins s3 σ H3 (fun o H4 => o = some (-1) ∧ H4 = H3) I3 ⟨1, rfl, -1, rfl, rfl, rfl⟩) fun vs s4 ⟨o, H4, I4, ps, eo, e4⟩ => ?_
  subst eo e4
  have I5 : Inv X pins σ H4 { s4 with heap := s4.heap.push { cls := .type "slice", data := .fields #[vl, vu, vs] } } := I4.kept (t' := s4.toks) fun b ob q => Heap.get?_push_of_some _ q
  obtain ⟨its, r, ht, hz⟩ := I5.tuple hx
  have hlen := r.length
  show wpAny (model X.prog X.w) X.A (subscriptTail e (.Slice none none (some (.UnaryOp .USub (.Constant (.int 1) k p1) p2)) p3) (.ref a) (.ref s4.heap.objs.size)) (EP X pins σ Q) X.xe { s4 with heap := s4.heap.push { cls := .type "slice", data := .fields #[vl, vu, vs] } }
  refine tail_any (ops := [.ref a, .ref s4.heap.objs.size]) ht.typeIs PyProof.Rows.slot_tuple_getitem.lookup ?_ (by with_unfolding_all rfl)
  refine HT.getItem_tuple_rev ht (Heap.IsSliceOf.new _ vl vu vs) pl pu ps (by rw [List.size_toArray]; omega) ?_
  refine ⟨.ref _, _, I5.laid (t' := s4.toks) (o := .tup xs.reverse) (fun b ob q => Heap.get?_push_of_some _ q) (Nat.le_refl _) ?_, rfl, q _ (I5.hok.fresh (Nat.le_refl _))⟩
  exact ⟨by rw [List.length_reverse]; exact hz, _, r.reverse, IsTup.new _ _⟩
/-- z[::-1], a text of two signs at most -/
def tRevS (te : TE) : TE := fun σ H Q => te σ H fun x H1 => ∃ l : List Nat, x = .str (SX.S l) ∧ l.length ≤ 2 ∧ Q (.str (SX.S l.reverse)) H1
theorem pe_revS (he : PE X e te) : PE X (.Subscript e (.Slice none none (some (.UnaryOp .USub (.Constant (.int 1) k p1) p2)) p3) pos) (tRevS te) := by
  refine ⟨fun pins s σ H Q I h => ?_⟩
  refine Subscript_ (thn (he.run pins s σ H _ I h) fun v s1 ⟨x, H1, I1, r1, q1⟩ => ?_)
  obtain ⟨l, ex, h2, q⟩ := q1
  subst ex
  obtain ⟨tk, rfl⟩ := r1
  have hst : PO X (some (.UnaryOp .USub (.Constant (.int 1) k p1) p2)) (tPart (tUn (rU fun i => .int (-i)) (tC (.int 1)))) := po_some (pe_un un_neg pe_int)
  refine wpAny_Slice (thn (po_none.run pins s1 σ H1 (fun o H2 => o = none ∧ H2 = H1) I1 ⟨rfl, rfl⟩) fun vl s2 ⟨l2, H2, I2, pl, el, e2⟩ => ?_)
  subst el e2
  refine thn (po_none.run pins s2 σ H2 (fun o H3 => o = none ∧ H3 = H2) I2 ⟨rfl, rfl⟩) fun vu s3 ⟨u, H3, I3, pu, eu, e3⟩ => ?_
  subst eu e3
  refine thn (hst.run pins s3 σ H3 (fun o H4 => o = some (-1) ∧ H4 = H3) I3 ⟨1, rfl, -1, rfl, rfl, rfl⟩) fun vs s4 ⟨o, H4, I4, ps, eo, e4⟩ => ?_
  subst eo e4
  have I5 : Inv X pins σ H4 { s4 with heap := s4.heap.push { cls := .type "slice", data := .fields #[vl, vu, vs] } } := I4.kept (t' := s4.toks) fun b ob q => Heap.get?_push_of_some _ q
  cases pl
  cases pu
  cases ps with
  | int i t =>
  have hsl : Heap.IsSlice (s4.heap.push { cls := .type "slice", data := .fields #[Value.none, Value.none, Value.int (-1) t] }) s4.heap.objs.size none none (some (-1, t)) := ⟨_, Heap.get?_push_size _ rfl, rfl, rfl⟩
  show wpAny (model X.prog X.w) X.A (subscriptTail e (.Slice none none (some (.UnaryOp .USub (.Constant (.int 1) k p1) p2)) p3) (.str (SX.S l) tk) (.ref s4.heap.objs.size)) (EP X pins σ Q) X.xe { s4 with heap := s4.heap.push { cls := .type "slice", data := .fields #[Value.none, Value.none, Value.int (-1) t] } }
  refine tail_any (ops := [.str (SX.S l) tk, .ref s4.heap.objs.size]) (typeIs_str _ _ _) F.slot_str_getitem.lookup ?_ (by with_unfolding_all rfl)
  refine wpAny_getItem_str_slice hsl rfl ?_
  have em : sliceMade (SX.S l) tk none none (some (-1, t)) = .str (SX.S l.reverse) := by
    unfold sliceMade
    have c : ¬ (((((some ((-1 : Int), t)).map (·.1)).getD 1 == 1) && (slicePicked (SX.S l) none none (some (-1, t))).length == (SX.S l).length) = true) := by
      intro z
      rw [Bool.and_eq_true] at z
      exact absurd z.1 (by show ¬ (((-1 : Int) == 1) = true); decide)
    rw [if_neg c]
    match l, h2 with
    | [], _ =>
      rw [show slicePicked (SX.S []) none none (some (-1, t)) = [] from by show Builtin.Str.strSliceIndices none none (-1) 0 = []; decide]
      rfl
    | [a], _ =>
      rw [show slicePicked (SX.S [a]) none none (some (-1, t)) = [0] from by show Builtin.Str.strSliceIndices none none (-1) 1 = [0]; decide]
      rfl
    | [a, b], _ =>
      rw [show slicePicked (SX.S [a, b]) none none (some (-1, t)) = [1, 0] from by show Builtin.Str.strSliceIndices none none (-1) 2 = [1, 0]; decide]
      rfl
  rw [em]
  exact ⟨by rw [SX.S_len, List.length_reverse, sizeLine_eq]; omega, .str (SX.S l.reverse), H4, I5.tok _, ⟨_, rfl⟩, q⟩
end
end L3
set_option Elab.async false
set_option linter.all false
set_option maxRecDepth 100000
set_option maxHeartbeats 4000000
namespace L3
open PySem PySem.Spec PyProof.Rows L2
end L3
set_option Elab.async false
set_option linter.all false
set_option maxRecDepth 100000
set_option maxHeartbeats 4000000
namespace Toy
open PySem PySem.Spec PyProof.Rows L2 L3
def top (i : Nat) : Stmt := PySem.Challenge.pw_shortgoings_k25_texts_of_no_spread.main.body.getD i (.Pass ⟨0, 0, 0, 0⟩)
abbrev s_is_whole : Stmt := top 19
abbrev s_is_moment : Stmt := top 20
abbrev s_want_moment : Stmt := top 21
abbrev s_want_below : Stmt := top 22
abbrev s_moment_at : Stmt := top 23
abbrev s_clock_of : Stmt := top 24
abbrev s_show_moment : Stmt := top 25
abbrev s_are_figures : Stmt := top 26
abbrev s_number_of : Stmt := top 27
abbrev s_day_of : Stmt := top 28
abbrev s_read_moment : Stmt := top 29
abbrev s_is_number : Stmt := top 34
abbrev s_all_rising : Stmt := top 36
abbrev s_shorts_in : Stmt := top 37
abbrev s_row_moments : Stmt := top 38
abbrev s_row_many : Stmt := top 39
abbrev s_row_text : Stmt := top 40
abbrev s_At_init : Stmt := inClass (top 41) 0
abbrev s_At_moments : Stmt := inClass (top 41) 1
abbrev s_At_begins : Stmt := inClass (top 41) 3
abbrev s_At_ends : Stmt := inClass (top 41) 4
abbrev s_At_means_many : Stmt := inClass (top 41) 5
abbrev s_At_nested : Stmt := inClass (top 41) 6
abbrev s_At_str : Stmt := inClass (top 41) 7
abbrev s_Over_init : Stmt := inClass (top 42) 0
abbrev s_Over_moments : Stmt := inClass (top 42) 2
abbrev s_Over_begins : Stmt := inClass (top 42) 4
abbrev s_Over_ends : Stmt := inClass (top 42) 5
abbrev s_Over_means_many : Stmt := inClass (top 42) 6
abbrev s_Over_nested : Stmt := inClass (top 42) 7
abbrev s_Over_str : Stmt := inClass (top 42) 8
abbrev s_Spread_init : Stmt := inClass (top 45) 0
abbrev s_Spread_moments : Stmt := inClass (top 45) 2
abbrev s_Spread_str : Stmt := inClass (top 45) 6
abbrev s_number_in : Stmt := top 46
abbrev s_at_in : Stmt := top 47
abbrev s_item_end : Stmt := top 48
abbrev s_over_in : Stmt := top 49
abbrev s_read_on : Stmt := top 50
abbrev s_read_spread : Stmt := top 51
abbrev s__law_pot : Stmt := top 53
abbrev s__law_draw : Stmt := top 54
abbrev s__law_moments : Stmt := top 55
abbrev s__law_row_moments : Stmt := top 56
abbrev s__law_wide : Stmt := top 57
abbrev s__law_gap : Stmt := top 58
abbrev s__law_short : Stmt := top 59
abbrev s__law_row : Stmt := top 60
abbrev s__law_spread : Stmt := top 61
abbrev s__law_time : Stmt := top 62
abbrev s__law_word : Stmt := top 63
abbrev s__law_text : Stmt := top 64
abbrev s__law_word_of : Stmt := top 65
abbrev s__law_is_refused : Stmt := top 66
abbrev s__law_begin : Stmt := top 67
abbrev s__law_end : Stmt := top 68
abbrev s__law_many : Stmt := top 69
abbrev s__law_is_row : Stmt := top 70
abbrev s__law_number : Stmt := top 71
abbrev s__law_at_in : Stmt := top 72
abbrev s__law_over_in : Stmt := top 73
abbrev s__law_stop : Stmt := top 74
abbrev s__law_next : Stmt := top 75
abbrev s__law_read : Stmt := top 76
abbrev s__law_signs : Stmt := top 77
abbrev s__law_over_bent : Stmt := top 78
abbrev s__law_row_bent : Stmt := top 79
abbrev s__law_spoilt : Stmt := top 80
abbrev s__law_right : Stmt := top 81
abbrev s_law : Stmt := top 82
def xf1 : List Fx := [fun K => (He.Fa.glo "is_whole").ok K,
  fun K => (He.Fa.glo "is_moment").ok K,
  fun K => (He.Fa.glo "want_moment").ok K,
  fun K => (He.Fa.glo "want_below").ok K,
  fun K => (He.Fa.glo "moment_at").ok K,
  fun K => (He.Fa.glo "clock_of").ok K,
  fun K => (He.Fa.glo "show_moment").ok K,
  fun K => (He.Fa.glo "are_figures").ok K,
  fun K => (He.Fa.glo "number_of").ok K,
  fun K => (He.Fa.glo "day_of").ok K,
  fun K => (He.Fa.glo "read_moment").ok K,
  fun K => (He.Fa.glo "is_number").ok K,
  fun K => (He.Fa.glo "all_rising").ok K,
  fun K => (He.Fa.glo "shorts_in").ok K,
  fun K => (He.Fa.glo "row_moments").ok K,
  fun K => (He.Fa.glo "row_many").ok K,
  fun K => (He.Fa.glo "row_text").ok K,
  fun K => (He.Fa.glo "number_in").ok K,
  fun K => (He.Fa.glo "at_in").ok K,
  fun K => (He.Fa.glo "item_end").ok K,
  fun K => (He.Fa.glo "over_in").ok K,
  fun K => (He.Fa.glo "read_on").ok K,
  fun K => (He.Fa.glo "read_spread").ok K,
  fun K => (He.Fa.glo "_law_pot").ok K,
  fun K => (He.Fa.glo "_law_draw").ok K,
  fun K => (He.Fa.glo "_law_moments").ok K,
  fun K => (He.Fa.glo "_law_row_moments").ok K,
  fun K => (He.Fa.glo "_law_wide").ok K,
  fun K => (He.Fa.glo "_law_gap").ok K,
  fun K => (He.Fa.glo "_law_short").ok K,
  fun K => (He.Fa.glo "_law_row").ok K,
  fun K => (He.Fa.glo "_law_spread").ok K,
  fun K => (He.Fa.glo "_law_time").ok K,
  fun K => (He.Fa.glo "_law_word").ok K,
  fun K => (He.Fa.glo "_law_text").ok K,
  fun K => (He.Fa.glo "_law_word_of").ok K,
  fun K => (He.Fa.glo "_law_is_refused").ok K,
  fun K => (He.Fa.glo "_law_begin").ok K,
  fun K => (He.Fa.glo "_law_end").ok K,
  fun K => (He.Fa.glo "_law_many").ok K,
  fun K => (He.Fa.glo "_law_is_row").ok K,
  fun K => (He.Fa.glo "_law_number").ok K,
  fun K => (He.Fa.glo "_law_at_in").ok K,
  fun K => (He.Fa.glo "_law_over_in").ok K,
  fun K => (He.Fa.glo "_law_stop").ok K,
  fun K => (He.Fa.glo "_law_next").ok K,
  fun K => (He.Fa.glo "_law_read").ok K,
  fun K => (He.Fa.glo "_law_signs").ok K,
  fun K => (He.Fa.glo "_law_over_bent").ok K,
  fun K => (He.Fa.glo "_law_row_bent").ok K,
  fun K => (He.Fa.glo "_law_spoilt").ok K,
  fun K => (He.Fa.glo "_law_right").ok K,
  fun K => (He.Fa.glo "law").ok K,
  fun K => (He.Fa.int "HOUR" (60)).ok K,
  fun K => (He.Fa.int "DAY" (1440)).ok K,
  fun K => (He.Fa.int "HOURS" (24)).ok K,
  fun K => (He.Fa.str "FIGURES_clock" "0123456789").ok K,
  fun K => (He.Fa.str "COLON" ":").ok K,
  fun K => (He.Fa.str "BLANK" " ").ok K,
  fun K => (He.Fa.int "MOST_MOMENTS" (1440)).ok K,
  fun K => (He.Fa.int "MOST_NESTED" (8)).ok K,
  fun K => (He.Fa.str "NO_PARTS" "-").ok K,
  fun K => (He.Fa.str "FIGURES_spreads" "0123456789").ok K,
  fun K => (He.Fa.free "ValueError").ok K,
  fun K => (He.Fa.free "all").ok K,
  fun K => (He.Fa.free "bool").ok K,
  fun K => (He.Fa.free "divmod").ok K,
  fun K => (He.Fa.free "int").ok K,
  fun K => (He.Fa.free "isinstance").ok K]
def xf2 : List Fx := [fun K => (He.Fa.free "len").ok K,
  fun K => (He.Fa.free "list").ok K,
  fun K => (He.Fa.free "max").ok K,
  fun K => (He.Fa.free "min").ok K,
  fun K => (He.Fa.free "range").ok K,
  fun K => (He.Fa.free "repr").ok K,
  fun K => (He.Fa.free "str").ok K,
  fun K => (He.Fa.free "sum").ok K,
  fun K => (He.Fa.free "tuple").ok K,
  fun K => (He.Fa.free "zip").ok K,
  fun K => (He.Fa.glo "GoingError").ok K,
  fun K => (He.Fa.glo "NoTime").ok K,
  exoB bmV "ValueError.__new__" "NoTime",
  fun K => (He.Fa.glo "NoPiece").ok K,
  exoB bmV "ValueError.__new__" "NoPiece",
  fun K => (He.Fa.glo "NoDays").ok K,
  fun K => (He.Fa.glo "NoCard").ok K,
  fun K => (He.Fa.glo "NoName").ok K,
  fun K => (He.Fa.glo "NoRow").ok K,
  fun K => (He.Fa.glo "NoText").ok K,
  fun K => (He.Fa.glo "Short").ok K,
  fun K => (He.Fa.glo "At").ok K,
  fun K => (He.Fa.glo "Over").ok K,
  fun K => (He.Fa.glo "Spread").ok K,
  fun K => (He.Fa.cls "At").ok K,
  insB "At",
  fun K => (He.Fa.noat "At" "moment").ok K,
  fun K => (He.Fa.meth "At" "moments").ok K,
  fun K => (He.Fa.meth "At" "begins").ok K,
  fun K => (He.Fa.meth "At" "ends").ok K,
  fun K => (He.Fa.meth "At" "means_many").ok K,
  fun K => (He.Fa.meth "At" "nested").ok K,
  fun K => (He.Fa.meth "At" "__str__").ok K,
  fun K => (He.Fa.mkr "At").ok K,
  kitF "At" "Short" true,
  kitFT "At" "str" false,
  fun K => (He.Fa.cls "Over").ok K,
  insB "Over",
  fun K => (He.Fa.noat "Over" "kept").ok K,
  fun K => (He.Fa.noat "Over" "many").ok K,
  fun K => (He.Fa.noat "Over" "step").ok K,
  fun K => (He.Fa.meth "Over" "moments").ok K,
  fun K => (He.Fa.meth "Over" "begins").ok K,
  fun K => (He.Fa.meth "Over" "ends").ok K,
  fun K => (He.Fa.meth "Over" "means_many").ok K,
  fun K => (He.Fa.meth "Over" "nested").ok K,
  fun K => (He.Fa.meth "Over" "__str__").ok K,
  fun K => (He.Fa.mkr "Over").ok K,
  kitF "Over" "Short" true,
  kitFT "Over" "str" false,
  fun K => (He.Fa.cls "Spread").ok K,
  insB "Spread",
  fun K => (He.Fa.noat "Spread" "kept").ok K,
  fun K => (He.Fa.noat "Spread" "held").ok K,
  fun K => (He.Fa.meth "Spread" "moments").ok K,
  fun K => (He.Fa.meth "Spread" "__str__").ok K,
  fun K => (He.Fa.mkr "Spread").ok K,
  kitFT "Spread" "str" false,
  exm1F "NoTime" "NoTime" true,
  exm1F "NoPiece" "GoingError" true,
  excCB "NoPiece",
  kitF "NoPiece" "NoTime" false,
  kitF "NoPiece" "NoPiece" true,
  kitF "NoPiece" "NoDays" false,
  kitF "NoPiece" "NoCard" false,
  kitF "NoPiece" "NoName" false,
  kitF "NoPiece" "NoRow" false,
  kitF "NoPiece" "NoText" false,
  kitFT "NoPiece" "ValueError" true]
def xf : List Fx := xf1 ++ xf2
def d_is_whole : He.DefD := ⟨("is_whole", none), "is_whole", "is_whole", defArgs s_is_whole, defBody s_is_whole, defScope s_is_whole, [], []⟩
def d_is_moment : He.DefD := ⟨("is_moment", none), "is_moment", "is_moment", defArgs s_is_moment, defBody s_is_moment, defScope s_is_moment, [], []⟩
def d_want_moment : He.DefD := ⟨("want_moment", none), "want_moment", "want_moment", defArgs s_want_moment, defBody s_want_moment, defScope s_want_moment, [], []⟩
def d_want_below : He.DefD := ⟨("want_below", none), "want_below", "want_below", defArgs s_want_below, defBody s_want_below, defScope s_want_below, [], []⟩
def d_moment_at : He.DefD := ⟨("moment_at", none), "moment_at", "moment_at", defArgs s_moment_at, defBody s_moment_at, defScope s_moment_at, [.int (0), .int (0), .int (0)], []⟩
def d_clock_of : He.DefD := ⟨("clock_of", none), "clock_of", "clock_of", defArgs s_clock_of, defBody s_clock_of, defScope s_clock_of, [], []⟩
def d_show_moment : He.DefD := ⟨("show_moment", none), "show_moment", "show_moment", defArgs s_show_moment, defBody s_show_moment, defScope s_show_moment, [], []⟩
def d_are_figures : He.DefD := ⟨("are_figures", none), "are_figures", "are_figures", defArgs s_are_figures, defBody s_are_figures, defScope s_are_figures, [], []⟩
def d_number_of : He.DefD := ⟨("number_of", none), "number_of", "number_of", defArgs s_number_of, defBody s_number_of, defScope s_number_of, [], []⟩
def d_day_of : He.DefD := ⟨("day_of", none), "day_of", "day_of", defArgs s_day_of, defBody s_day_of, defScope s_day_of, [], []⟩
def d_read_moment : He.DefD := ⟨("read_moment", none), "read_moment", "read_moment", defArgs s_read_moment, defBody s_read_moment, defScope s_read_moment, [], []⟩
def d_is_number : He.DefD := ⟨("is_number", none), "is_number", "is_number", defArgs s_is_number, defBody s_is_number, defScope s_is_number, [], []⟩
def d_all_rising : He.DefD := ⟨("all_rising", none), "all_rising", "all_rising", defArgs s_all_rising, defBody s_all_rising, defScope s_all_rising, [], []⟩
def d_shorts_in : He.DefD := ⟨("shorts_in", none), "shorts_in", "shorts_in", defArgs s_shorts_in, defBody s_shorts_in, defScope s_shorts_in, [], []⟩
def d_row_moments : He.DefD := ⟨("row_moments", none), "row_moments", "row_moments", defArgs s_row_moments, defBody s_row_moments, defScope s_row_moments, [], []⟩
def d_row_many : He.DefD := ⟨("row_many", none), "row_many", "row_many", defArgs s_row_many, defBody s_row_many, defScope s_row_many, [], []⟩
def d_row_text : He.DefD := ⟨("row_text", none), "row_text", "row_text", defArgs s_row_text, defBody s_row_text, defScope s_row_text, [], []⟩
def d_At_init : He.DefD := ⟨("At", some "__init__"), "__init__", "At.__init__", defArgs s_At_init, defBody s_At_init, defScope s_At_init, [], []⟩
def d_At_moments : He.DefD := ⟨("At", some "moments"), "moments", "At.moments", defArgs s_At_moments, defBody s_At_moments, defScope s_At_moments, [], []⟩
def d_At_begins : He.DefD := ⟨("At", some "begins"), "begins", "At.begins", defArgs s_At_begins, defBody s_At_begins, defScope s_At_begins, [], []⟩
def d_At_ends : He.DefD := ⟨("At", some "ends"), "ends", "At.ends", defArgs s_At_ends, defBody s_At_ends, defScope s_At_ends, [], []⟩
def d_At_means_many : He.DefD := ⟨("At", some "means_many"), "means_many", "At.means_many", defArgs s_At_means_many, defBody s_At_means_many, defScope s_At_means_many, [], []⟩
def d_At_nested : He.DefD := ⟨("At", some "nested"), "nested", "At.nested", defArgs s_At_nested, defBody s_At_nested, defScope s_At_nested, [], []⟩
def d_At_str : He.DefD := ⟨("At", some "__str__"), "__str__", "At.__str__", defArgs s_At_str, defBody s_At_str, defScope s_At_str, [], []⟩
def d_Over_init : He.DefD := ⟨("Over", some "__init__"), "__init__", "Over.__init__", defArgs s_Over_init, defBody s_Over_init, defScope s_Over_init, [.int (2), .int (60)], []⟩
def d_Over_moments : He.DefD := ⟨("Over", some "moments"), "moments", "Over.moments", defArgs s_Over_moments, defBody s_Over_moments, defScope s_Over_moments, [], []⟩
def d_Over_begins : He.DefD := ⟨("Over", some "begins"), "begins", "Over.begins", defArgs s_Over_begins, defBody s_Over_begins, defScope s_Over_begins, [], []⟩
def d_Over_ends : He.DefD := ⟨("Over", some "ends"), "ends", "Over.ends", defArgs s_Over_ends, defBody s_Over_ends, defScope s_Over_ends, [], []⟩
def d_Over_means_many : He.DefD := ⟨("Over", some "means_many"), "means_many", "Over.means_many", defArgs s_Over_means_many, defBody s_Over_means_many, defScope s_Over_means_many, [], []⟩
def d_Over_nested : He.DefD := ⟨("Over", some "nested"), "nested", "Over.nested", defArgs s_Over_nested, defBody s_Over_nested, defScope s_Over_nested, [], []⟩
def d_Over_str : He.DefD := ⟨("Over", some "__str__"), "__str__", "Over.__str__", defArgs s_Over_str, defBody s_Over_str, defScope s_Over_str, [], []⟩
def d_Spread_init : He.DefD := ⟨("Spread", some "__init__"), "__init__", "Spread.__init__", defArgs s_Spread_init, defBody s_Spread_init, defScope s_Spread_init, [], []⟩
def d_Spread_moments : He.DefD := ⟨("Spread", some "moments"), "moments", "Spread.moments", defArgs s_Spread_moments, defBody s_Spread_moments, defScope s_Spread_moments, [], []⟩
def d_Spread_str : He.DefD := ⟨("Spread", some "__str__"), "__str__", "Spread.__str__", defArgs s_Spread_str, defBody s_Spread_str, defScope s_Spread_str, [], []⟩
def d_number_in : He.DefD := ⟨("number_in", none), "number_in", "number_in", defArgs s_number_in, defBody s_number_in, defScope s_number_in, [], []⟩
def d_at_in : He.DefD := ⟨("at_in", none), "at_in", "at_in", defArgs s_at_in, defBody s_at_in, defScope s_at_in, [], []⟩
def d_item_end : He.DefD := ⟨("item_end", none), "item_end", "item_end", defArgs s_item_end, defBody s_item_end, defScope s_item_end, [], []⟩
def d_over_in : He.DefD := ⟨("over_in", none), "over_in", "over_in", defArgs s_over_in, defBody s_over_in, defScope s_over_in, [], []⟩
def d_read_on : He.DefD := ⟨("read_on", none), "read_on", "read_on", defArgs s_read_on, defBody s_read_on, defScope s_read_on, [], []⟩
def d_read_spread : He.DefD := ⟨("read_spread", none), "read_spread", "read_spread", defArgs s_read_spread, defBody s_read_spread, defScope s_read_spread, [], []⟩
def d__law_pot : He.DefD := ⟨("_law_pot", none), "_law_pot", "_law_pot", defArgs s__law_pot, defBody s__law_pot, defScope s__law_pot, [], []⟩
def d__law_draw : He.DefD := ⟨("_law_draw", none), "_law_draw", "_law_draw", defArgs s__law_draw, defBody s__law_draw, defScope s__law_draw, [], []⟩
def d__law_moments : He.DefD := ⟨("_law_moments", none), "_law_moments", "_law_moments", defArgs s__law_moments, defBody s__law_moments, defScope s__law_moments, [], []⟩
def d__law_row_moments : He.DefD := ⟨("_law_row_moments", none), "_law_row_moments", "_law_row_moments", defArgs s__law_row_moments, defBody s__law_row_moments, defScope s__law_row_moments, [], []⟩
def d__law_wide : He.DefD := ⟨("_law_wide", none), "_law_wide", "_law_wide", defArgs s__law_wide, defBody s__law_wide, defScope s__law_wide, [], []⟩
def d__law_gap : He.DefD := ⟨("_law_gap", none), "_law_gap", "_law_gap", defArgs s__law_gap, defBody s__law_gap, defScope s__law_gap, [], []⟩
def d__law_short : He.DefD := ⟨("_law_short", none), "_law_short", "_law_short", defArgs s__law_short, defBody s__law_short, defScope s__law_short, [], []⟩
def d__law_row : He.DefD := ⟨("_law_row", none), "_law_row", "_law_row", defArgs s__law_row, defBody s__law_row, defScope s__law_row, [], []⟩
def d__law_spread : He.DefD := ⟨("_law_spread", none), "_law_spread", "_law_spread", defArgs s__law_spread, defBody s__law_spread, defScope s__law_spread, [], []⟩
def d__law_time : He.DefD := ⟨("_law_time", none), "_law_time", "_law_time", defArgs s__law_time, defBody s__law_time, defScope s__law_time, [], []⟩
def d__law_word : He.DefD := ⟨("_law_word", none), "_law_word", "_law_word", defArgs s__law_word, defBody s__law_word, defScope s__law_word, [], []⟩
def d__law_text : He.DefD := ⟨("_law_text", none), "_law_text", "_law_text", defArgs s__law_text, defBody s__law_text, defScope s__law_text, [], []⟩
def d__law_word_of : He.DefD := ⟨("_law_word_of", none), "_law_word_of", "_law_word_of", defArgs s__law_word_of, defBody s__law_word_of, defScope s__law_word_of, [], []⟩
def d__law_is_refused : He.DefD := ⟨("_law_is_refused", none), "_law_is_refused", "_law_is_refused", defArgs s__law_is_refused, defBody s__law_is_refused, defScope s__law_is_refused, [], []⟩
def d__law_begin : He.DefD := ⟨("_law_begin", none), "_law_begin", "_law_begin", defArgs s__law_begin, defBody s__law_begin, defScope s__law_begin, [], []⟩
def d__law_end : He.DefD := ⟨("_law_end", none), "_law_end", "_law_end", defArgs s__law_end, defBody s__law_end, defScope s__law_end, [], []⟩
def d__law_many : He.DefD := ⟨("_law_many", none), "_law_many", "_law_many", defArgs s__law_many, defBody s__law_many, defScope s__law_many, [], []⟩
def d__law_is_row : He.DefD := ⟨("_law_is_row", none), "_law_is_row", "_law_is_row", defArgs s__law_is_row, defBody s__law_is_row, defScope s__law_is_row, [], []⟩
def d__law_number : He.DefD := ⟨("_law_number", none), "_law_number", "_law_number", defArgs s__law_number, defBody s__law_number, defScope s__law_number, [], []⟩
def d__law_at_in : He.DefD := ⟨("_law_at_in", none), "_law_at_in", "_law_at_in", defArgs s__law_at_in, defBody s__law_at_in, defScope s__law_at_in, [], []⟩
def d__law_over_in : He.DefD := ⟨("_law_over_in", none), "_law_over_in", "_law_over_in", defArgs s__law_over_in, defBody s__law_over_in, defScope s__law_over_in, [], []⟩
def d__law_stop : He.DefD := ⟨("_law_stop", none), "_law_stop", "_law_stop", defArgs s__law_stop, defBody s__law_stop, defScope s__law_stop, [], []⟩
def d__law_next : He.DefD := ⟨("_law_next", none), "_law_next", "_law_next", defArgs s__law_next, defBody s__law_next, defScope s__law_next, [], []⟩
def d__law_read : He.DefD := ⟨("_law_read", none), "_law_read", "_law_read", defArgs s__law_read, defBody s__law_read, defScope s__law_read, [], []⟩
def d__law_signs : He.DefD := ⟨("_law_signs", none), "_law_signs", "_law_signs", defArgs s__law_signs, defBody s__law_signs, defScope s__law_signs, [], []⟩
def d__law_over_bent : He.DefD := ⟨("_law_over_bent", none), "_law_over_bent", "_law_over_bent", defArgs s__law_over_bent, defBody s__law_over_bent, defScope s__law_over_bent, [], []⟩
def d__law_row_bent : He.DefD := ⟨("_law_row_bent", none), "_law_row_bent", "_law_row_bent", defArgs s__law_row_bent, defBody s__law_row_bent, defScope s__law_row_bent, [], []⟩
def d__law_spoilt : He.DefD := ⟨("_law_spoilt", none), "_law_spoilt", "_law_spoilt", defArgs s__law_spoilt, defBody s__law_spoilt, defScope s__law_spoilt, [], []⟩
def d__law_right : He.DefD := ⟨("_law_right", none), "_law_right", "_law_right", defArgs s__law_right, defBody s__law_right, defScope s__law_right, [], []⟩
def d_law : He.DefD := ⟨("law", none), "law", "law", defArgs s_law, defBody s_law, defScope s_law, [], []⟩
def fn : List He.DefD := [d_is_whole, d_is_moment, d_want_moment, d_want_below, d_moment_at, d_clock_of, d_show_moment, d_are_figures, d_number_of, d_day_of, d_read_moment, d_is_number, d_all_rising, d_shorts_in, d_row_moments, d_row_many, d_row_text, d_At_init, d_At_moments, d_At_begins, d_At_ends, d_At_means_many, d_At_nested, d_At_str, d_Over_init, d_Over_moments, d_Over_begins, d_Over_ends, d_Over_means_many, d_Over_nested, d_Over_str, d_Spread_init, d_Spread_moments, d_Spread_str, d_number_in, d_at_in, d_item_end, d_over_in, d_read_on, d_read_spread, d__law_pot, d__law_draw, d__law_moments, d__law_row_moments, d__law_wide, d__law_gap, d__law_short, d__law_row, d__law_spread, d__law_time, d__law_word, d__law_text, d__law_word_of, d__law_is_refused, d__law_begin, d__law_end, d__law_many, d__law_is_row, d__law_number, d__law_at_in, d__law_over_in, d__law_stop, d__law_next, d__law_read, d__law_signs, d__law_over_bent, d__law_row_bent, d__law_spoilt, d__law_right, d_law]
abbrev R : PySem.W.OpenRow := PySem.W.OpenLaw.row PySem.Challenge.rw_shortgoings_k25_texts_of_no_spread
def adr0 : List Addr := [3, 455, 383, 454, 382, 523, 82, 286, 522, 285, 31, 70, 30, 81, 331, 338, 352, 359, 366, 373, 380, 400, 412, 426, 433, 440, 445, 452, 471, 485]
def adr1 : List Addr := [513, 94, 106, 118, 130, 149, 158, 165, 172, 179, 187, 194, 201, 206, 213, 220, 227, 234, 295, 300, 307, 312, 317, 532, 539, 546, 553, 560, 567, 574]
def adr2 : List Addr := [581, 586, 593, 600, 607, 614, 621, 628, 635, 642, 647, 654, 661, 668, 675, 680, 685, 690, 695, 702, 709, 716, 723, 730, 737, 744, 749, 756, 763, 69]
def adr3 : List Addr := [157, 164, 171, 178, 186, 180, 193, 200, 205, 212, 219, 226, 233, 294, 299, 306, 311, 316, 531, 538, 545, 552, 559, 566, 573, 580, 585, 592, 599, 606]
def adr4 : List Addr := [613, 620, 627, 634, 641, 646, 653, 660, 667, 674, 679, 684, 689, 694, 701, 708, 715, 722, 729, 736, 743, 748, 755, 762, 330, 337, 351, 358, 365, 372]
def adr5 : List Addr := [379, 399, 393, 411, 425, 432, 439, 444, 451, 470, 484, 512]
def adr : List Addr := adr0 ++ adr1 ++ adr2 ++ adr3 ++ adr4 ++ adr5
abbrev hk : PySem.W.Hook := hookA adr xf fn
def ob (s : PySem.W.SharedT) : He.AlD := obsA adr xf fn (HandSHeadRun.getT s)
theorem ob_eq (s : PySem.W.SharedT) : ob s = hk.obs s.abs := obsA_eq (HandSHeadRun.getT_eq s)
def ns0 : List PySem.Str := ["_wall", "GoingError", "LackError", "BookError", "NoTime", "NoPiece", "NoDays", "NoCard", "NoName", "NoRow", "NoText", "HOUR", "DAY", "HOURS", "FIGURES_clock", "COLON", "BLANK", "is_whole", "is_moment", "want_moment", "want_below", "moment_at", "clock_of", "show_moment", "are_figures", "number_of", "day_of", "read_moment", "MOST_MOMENTS", "MOST_NESTED"]
def ns1 : List PySem.Str := ["NO_PARTS", "is_number", "Short", "all_rising", "shorts_in", "row_moments", "row_many", "row_text", "At", "Over", "FIGURES_spreads", "Spread", "number_in", "at_in", "item_end", "over_in", "read_on", "read_spread", "_law_pot", "_law_draw", "_law_moments", "_law_row_moments", "_law_wide", "_law_gap", "_law_short", "_law_row", "_law_spread", "_law_time", "_law_word", "_law_text"]
def ns2 : List PySem.Str := ["_law_word_of", "_law_is_refused", "_law_begin", "_law_end", "_law_many", "_law_is_row", "_law_number", "_law_at_in", "_law_over_in", "_law_stop", "_law_next", "_law_read", "_law_signs", "_law_over_bent", "_law_row_bent", "_law_spoilt", "_law_right"]
def nss : List PySem.Str := ns0 ++ ns1 ++ ns2
theorem run_a (w : World) : HandSHeadRun.RunA R (PySem.W.view R.prog [82]) 9000 nss w := by
  intro os
  kernel_rfl
theorem run_b (w : World) : HandSHeadRun.RunB R 9000 (fun s => xf1.all fun p => p (He.frG (HandSHeadRun.getT s) adr)) w := by
  intro os
  kernel_rfl
theorem run_c (w : World) : HandSHeadRun.RunB R 9000 (fun s => xf2.all fun p => p (He.frG (HandSHeadRun.getT s) adr)) w := by
  intro os
  kernel_rfl
theorem run_d (w : World) : ∀ os : OsState, (HandSHeadRun.endR R 9000 w os).map (fun s => (fn.all fun d => d.ok (He.frG (HandSHeadRun.getT s) adr), fn.map fun d => He.fnW (He.frG (HandSHeadRun.getT s) adr) d.at_)) = some (true, fn.map He.DefD.val) := by
  intro os
  kernel_rfl
theorem run (w : World) : HandSHeadRun.RunEq R (PySem.W.view R.prog [82]) hk ob 9000 nss w := HandSHeadRun.runEq_of (run_a w) (runC_of rfl (run_b w) (run_c w) (run_d w))
theorem sc_is_whole : FnScope ["thing"] ["thing"] (defScope s_is_whole) := ⟨rfl, rfl, rfl, by decide +kernel, rfl, by decide +kernel, by decide +kernel⟩
theorem sc_is_moment : FnScope ["thing"] ["thing"] (defScope s_is_moment) := ⟨rfl, rfl, rfl, by decide +kernel, rfl, by decide +kernel, by decide +kernel⟩
theorem sc_want_moment : FnScope ["thing"] ["thing"] (defScope s_want_moment) := ⟨rfl, rfl, rfl, by decide +kernel, rfl, by decide +kernel, by decide +kernel⟩
theorem sc_want_below : FnScope ["thing", "many"] ["thing", "many"] (defScope s_want_below) := ⟨rfl, rfl, rfl, by decide +kernel, rfl, by decide +kernel, by decide +kernel⟩
theorem sc_moment_at : FnScope ["day", "hour", "minute"] ["day", "hour", "minute"] (defScope s_moment_at) := ⟨rfl, rfl, rfl, by decide +kernel, rfl, by decide +kernel, by decide +kernel⟩
theorem sc_clock_of : FnScope ["moment"] ["moment"] (defScope s_clock_of) := ⟨rfl, rfl, rfl, by decide +kernel, rfl, by decide +kernel, by decide +kernel⟩
theorem sc_show_moment : FnScope ["moment", "day", "hour", "minute", "text"] ["moment"] (defScope s_show_moment) := ⟨rfl, rfl, rfl, by decide +kernel, rfl, by decide +kernel, by decide +kernel⟩
theorem sc_are_figures : FnScope ["word", "sign"] ["word"] (defScope s_are_figures) := ⟨rfl, rfl, rfl, by decide +kernel, rfl, by decide +kernel, by decide +kernel⟩
theorem sc_number_of : FnScope ["word"] ["word"] (defScope s_number_of) := ⟨rfl, rfl, rfl, by decide +kernel, rfl, by decide +kernel, by decide +kernel⟩
theorem sc_day_of : FnScope ["word", "day"] ["word"] (defScope s_day_of) := ⟨rfl, rfl, rfl, by decide +kernel, rfl, by decide +kernel, by decide +kernel⟩
theorem sc_read_moment : FnScope ["text", "head", "blank", "clock", "day", "hour", "colon", "minute"] ["text"] (defScope s_read_moment) := ⟨rfl, rfl, rfl, by decide +kernel, rfl, by decide +kernel, by decide +kernel⟩
theorem sc_is_number : FnScope ["thing", "least"] ["thing", "least"] (defScope s_is_number) := ⟨rfl, rfl, rfl, by decide +kernel, rfl, by decide +kernel, by decide +kernel⟩
theorem sc_all_rising : FnScope ["parts", "one", "other"] ["parts"] (defScope s_all_rising) := ⟨rfl, rfl, rfl, by decide +kernel, rfl, by decide +kernel, by decide +kernel⟩
theorem sc_shorts_in : FnScope ["parts", "found", "one"] ["parts"] (defScope s_shorts_in) := ⟨rfl, rfl, rfl, by decide +kernel, rfl, by decide +kernel, by decide +kernel⟩
theorem sc_row_moments : FnScope ["parts", "found", "one"] ["parts"] (defScope s_row_moments) := ⟨rfl, rfl, rfl, by decide +kernel, rfl, by decide +kernel, by decide +kernel⟩
theorem sc_row_many : FnScope ["parts", "one"] ["parts"] (defScope s_row_many) := ⟨rfl, rfl, rfl, by decide +kernel, rfl, by decide +kernel, by decide +kernel⟩
theorem sc_row_text : FnScope ["parts", "one"] ["parts"] (defScope s_row_text) := ⟨rfl, rfl, rfl, by decide +kernel, rfl, by decide +kernel, by decide +kernel⟩
theorem sc_At_init : FnScope ["self", "moment"] ["self", "moment"] (defScope s_At_init) := ⟨rfl, rfl, rfl, by decide +kernel, rfl, by decide +kernel, by decide +kernel⟩
theorem sc_At_moments : FnScope ["self"] ["self"] (defScope s_At_moments) := ⟨rfl, rfl, rfl, by decide +kernel, rfl, by decide +kernel, by decide +kernel⟩
theorem sc_At_begins : FnScope ["self"] ["self"] (defScope s_At_begins) := ⟨rfl, rfl, rfl, by decide +kernel, rfl, by decide +kernel, by decide +kernel⟩
theorem sc_At_ends : FnScope ["self"] ["self"] (defScope s_At_ends) := ⟨rfl, rfl, rfl, by decide +kernel, rfl, by decide +kernel, by decide +kernel⟩
theorem sc_At_means_many : FnScope ["self"] ["self"] (defScope s_At_means_many) := ⟨rfl, rfl, rfl, by decide +kernel, rfl, by decide +kernel, by decide +kernel⟩
theorem sc_At_nested : FnScope ["self"] ["self"] (defScope s_At_nested) := ⟨rfl, rfl, rfl, by decide +kernel, rfl, by decide +kernel, by decide +kernel⟩
theorem sc_At_str : FnScope ["self"] ["self"] (defScope s_At_str) := ⟨rfl, rfl, rfl, by decide +kernel, rfl, by decide +kernel, by decide +kernel⟩
theorem sc_Over_init : FnScope ["self", "parts", "many", "step"] ["self", "parts", "many", "step"] (defScope s_Over_init) := ⟨rfl, rfl, rfl, by decide +kernel, rfl, by decide +kernel, by decide +kernel⟩
theorem sc_Over_moments : FnScope ["self", "own", "found", "time", "moment"] ["self"] (defScope s_Over_moments) := ⟨rfl, rfl, rfl, by decide +kernel, rfl, by decide +kernel, by decide +kernel⟩
theorem sc_Over_begins : FnScope ["self"] ["self"] (defScope s_Over_begins) := ⟨rfl, rfl, rfl, by decide +kernel, rfl, by decide +kernel, by decide +kernel⟩
theorem sc_Over_ends : FnScope ["self"] ["self"] (defScope s_Over_ends) := ⟨rfl, rfl, rfl, by decide +kernel, rfl, by decide +kernel, by decide +kernel⟩
theorem sc_Over_means_many : FnScope ["self"] ["self"] (defScope s_Over_means_many) := ⟨rfl, rfl, rfl, by decide +kernel, rfl, by decide +kernel, by decide +kernel⟩
theorem sc_Over_nested : FnScope ["self", "one"] ["self"] (defScope s_Over_nested) := ⟨rfl, rfl, rfl, by decide +kernel, rfl, by decide +kernel, by decide +kernel⟩
theorem sc_Over_str : FnScope ["self"] ["self"] (defScope s_Over_str) := ⟨rfl, rfl, rfl, by decide +kernel, rfl, by decide +kernel, by decide +kernel⟩
theorem sc_Spread_init : FnScope ["self", "parts"] ["self", "parts"] (defScope s_Spread_init) := ⟨rfl, rfl, rfl, by decide +kernel, rfl, by decide +kernel, by decide +kernel⟩
theorem sc_Spread_moments : FnScope ["self"] ["self"] (defScope s_Spread_moments) := ⟨rfl, rfl, rfl, by decide +kernel, rfl, by decide +kernel, by decide +kernel⟩
theorem sc_Spread_str : FnScope ["self"] ["self"] (defScope s_Spread_str) := ⟨rfl, rfl, rfl, by decide +kernel, rfl, by decide +kernel, by decide +kernel⟩
theorem sc_number_in : FnScope ["word", "sign"] ["word"] (defScope s_number_in) := ⟨rfl, rfl, rfl, by decide +kernel, rfl, by decide +kernel, by decide +kernel⟩
theorem sc_at_in : FnScope ["text", "moment", "e"] ["text"] (defScope s_at_in) := ⟨rfl, rfl, rfl, by decide +kernel, rfl, by decide +kernel, by decide +kernel⟩
theorem sc_item_end : FnScope ["text", "at", "end"] ["text", "at"] (defScope s_item_end) := ⟨rfl, rfl, rfl, by decide +kernel, rfl, by decide +kernel, by decide +kernel⟩
theorem sc_over_in : FnScope ["parts", "tail", "words"] ["parts", "tail"] (defScope s_over_in) := ⟨rfl, rfl, rfl, by decide +kernel, rfl, by decide +kernel, by decide +kernel⟩
theorem sc_read_on : FnScope ["text", "at", "rows", "end", "parts"] ["text", "at", "rows"] (defScope s_read_on) := ⟨rfl, rfl, rfl, by decide +kernel, rfl, by decide +kernel, by decide +kernel⟩
theorem sc_read_spread : FnScope ["text", "rows", "at", "found"] ["text"] (defScope s_read_spread) := ⟨rfl, rfl, rfl, by decide +kernel, rfl, by decide +kernel, by decide +kernel⟩
theorem sc__law_pot : FnScope ["_law_script", "_law_k", "_law_cell"] ["_law_script", "_law_k"] (defScope s__law_pot) := ⟨rfl, rfl, rfl, by decide +kernel, rfl, by decide +kernel, by decide +kernel⟩
theorem sc__law_draw : FnScope ["_law_pot_here", "_law_many_here", "_law_digit"] ["_law_pot_here", "_law_many_here"] (defScope s__law_draw) := ⟨rfl, rfl, rfl, by decide +kernel, rfl, by decide +kernel, by decide +kernel⟩
theorem sc__law_moments : FnScope ["_law_short_here", "_law_own", "_law_found", "_law_time_here", "_law_moment"] ["_law_short_here"] (defScope s__law_moments) := ⟨rfl, rfl, rfl, by decide +kernel, rfl, by decide +kernel, by decide +kernel⟩
theorem sc__law_row_moments : FnScope ["_law_row_here", "_law_found", "_law_short_here"] ["_law_row_here"] (defScope s__law_row_moments) := ⟨rfl, rfl, rfl, by decide +kernel, rfl, by decide +kernel, by decide +kernel⟩
theorem sc__law_wide : FnScope ["_law_pot_here", "_law_found", "_law_k"] ["_law_pot_here"] (defScope s__law_wide) := ⟨rfl, rfl, rfl, by decide +kernel, rfl, by decide +kernel, by decide +kernel⟩
theorem sc__law_gap : FnScope ["_law_pot_here", "_law_way"] ["_law_pot_here"] (defScope s__law_gap) := ⟨rfl, rfl, rfl, by decide +kernel, rfl, by decide +kernel, by decide +kernel⟩
theorem sc__law_short : FnScope ["_law_pot_here", "_law_at", "_law_room", "_law_deep", "_law_left", "_law_row_here", "_law_moments_here", "_law_most", "_law_many_here"] ["_law_pot_here", "_law_at", "_law_room", "_law_deep", "_law_left"] (defScope s__law_short) := ⟨rfl, rfl, rfl, by decide +kernel, rfl, by decide +kernel, by decide +kernel⟩
theorem sc__law_row : FnScope ["_law_pot_here", "_law_at", "_law_room", "_law_deep", "_law_left", "_law_found", "_law_here", "_law_many_here", "_law_k", "_law_short_here"] ["_law_pot_here", "_law_at", "_law_room", "_law_deep", "_law_left"] (defScope s__law_row) := ⟨rfl, rfl, rfl, by decide +kernel, rfl, by decide +kernel, by decide +kernel⟩
theorem sc__law_spread : FnScope ["_law_pot_here", "_law_most", "_law_room", "_law_deep"] ["_law_pot_here", "_law_most"] (defScope s__law_spread) := ⟨rfl, rfl, rfl, by decide +kernel, rfl, by decide +kernel, by decide +kernel⟩
theorem sc__law_time : FnScope ["_law_moment", "_law_day", "_law_rest", "_law_hour", "_law_minute", "_law_text_here"] ["_law_moment"] (defScope s__law_time) := ⟨rfl, rfl, rfl, by decide +kernel, rfl, by decide +kernel, by decide +kernel⟩
theorem sc__law_word : FnScope ["_law_short_here"] ["_law_short_here"] (defScope s__law_word) := ⟨rfl, rfl, rfl, by decide +kernel, rfl, by decide +kernel, by decide +kernel⟩
theorem sc__law_text : FnScope ["_law_row_here", "_law_short_here"] ["_law_row_here"] (defScope s__law_text) := ⟨rfl, rfl, rfl, by decide +kernel, rfl, by decide +kernel, by decide +kernel⟩
theorem sc__law_word_of : FnScope ["_law_kind", "_law_things", "_law_told", "e"] ["_law_kind", "_law_things"] (defScope s__law_word_of) := ⟨rfl, rfl, rfl, by decide +kernel, rfl, by decide +kernel, by decide +kernel⟩
theorem sc__law_is_refused : FnScope ["_law_kind", "_law_things"] ["_law_kind", "_law_things"] (defScope s__law_is_refused) := ⟨rfl, rfl, rfl, by decide +kernel, rfl, by decide +kernel, by decide +kernel⟩
theorem sc__law_begin : FnScope ["_law_short_here"] ["_law_short_here"] (defScope s__law_begin) := ⟨rfl, rfl, rfl, by decide +kernel, rfl, by decide +kernel, by decide +kernel⟩
theorem sc__law_end : FnScope ["_law_short_here"] ["_law_short_here"] (defScope s__law_end) := ⟨rfl, rfl, rfl, by decide +kernel, rfl, by decide +kernel, by decide +kernel⟩
theorem sc__law_many : FnScope ["_law_row_here", "_law_short_here"] ["_law_row_here"] (defScope s__law_many) := ⟨rfl, rfl, rfl, by decide +kernel, rfl, by decide +kernel, by decide +kernel⟩
theorem sc__law_is_row : FnScope ["_law_row_here", "_law_rising", "_law_one", "_law_other"] ["_law_row_here"] (defScope s__law_is_row) := ⟨rfl, rfl, rfl, by decide +kernel, rfl, by decide +kernel, by decide +kernel⟩
theorem sc__law_number : FnScope ["_law_word_here", "_law_sign"] ["_law_word_here"] (defScope s__law_number) := ⟨rfl, rfl, rfl, by decide +kernel, rfl, by decide +kernel, by decide +kernel⟩
theorem sc__law_at_in : FnScope ["_law_text_here", "_law_words", "_law_clock", "_law_hour", "_law_minutes", "_law_day", "_law_sign"] ["_law_text_here"] (defScope s__law_at_in) := ⟨rfl, rfl, rfl, by decide +kernel, rfl, by decide +kernel, by decide +kernel⟩
theorem sc__law_over_in : FnScope ["_law_row_here", "_law_tail", "_law_words", "_law_many_here", "_law_step"] ["_law_row_here", "_law_tail"] (defScope s__law_over_in) := ⟨rfl, rfl, rfl, by decide +kernel, rfl, by decide +kernel, by decide +kernel⟩
theorem sc__law_stop : FnScope ["_law_text_here", "_law_at"] ["_law_text_here", "_law_at"] (defScope s__law_stop) := ⟨rfl, rfl, rfl, by decide +kernel, rfl, by decide +kernel, by decide +kernel⟩
theorem sc__law_next : FnScope ["_law_rows", "_law_text_here", "_law_at", "_law_stop_here", "_law_row_here"] ["_law_rows", "_law_text_here", "_law_at"] (defScope s__law_next) := ⟨rfl, rfl, rfl, by decide +kernel, rfl, by decide +kernel, by decide +kernel⟩
theorem sc__law_read : FnScope ["_law_text_here", "_law_rows", "_law_due", "_law_at", "_law_short_here"] ["_law_text_here"] (defScope s__law_read) := ⟨rfl, rfl, rfl, by decide +kernel, rfl, by decide +kernel, by decide +kernel⟩
theorem sc__law_signs : FnScope ["_law_pot_here", "_law_text_here", "_law_way", "_law_at", "_law_sign"] ["_law_pot_here", "_law_text_here"] (defScope s__law_signs) := ⟨rfl, rfl, rfl, by decide +kernel, rfl, by decide +kernel, by decide +kernel⟩
theorem sc__law_over_bent : FnScope ["_law_pot_here", "_law_row_here", "_law_span", "_law_most", "_law_many_here", "_law_step"] ["_law_pot_here", "_law_row_here"] (defScope s__law_over_bent) := ⟨rfl, rfl, rfl, by decide +kernel, rfl, by decide +kernel, by decide +kernel⟩
theorem sc__law_row_bent : FnScope ["_law_pot_here", "_law_row_here", "_law_way", "_law_at", "_law_found", "_law_k"] ["_law_pot_here", "_law_row_here", "_law_way"] (defScope s__law_row_bent) := ⟨rfl, rfl, rfl, by decide +kernel, rfl, by decide +kernel, by decide +kernel⟩
theorem sc__law_spoilt : FnScope ["_law_pot_here", "_law_way", "_law_row_here", "_law_text_here", "_law_ahead", "_law_behind", "_law_tails", "_law_k"] ["_law_pot_here", "_law_way", "_law_row_here"] (defScope s__law_spoilt) := ⟨rfl, rfl, rfl, by decide +kernel, rfl, by decide +kernel, by decide +kernel⟩
theorem sc__law_right : FnScope ["_law_pot_here", "_law_way", "_law_text_here", "_law_row_here", "_law_told"] ["_law_pot_here"] (defScope s__law_right) := ⟨rfl, rfl, rfl, by decide +kernel, rfl, by decide +kernel, by decide +kernel⟩
theorem sc_law : FnScope ["_law_script", "_law_k", "_law_pot_here", "_law_odd"] ["_law_script"] (defScope s_law) := ⟨rfl, rfl, rfl, by decide +kernel, rfl, by decide +kernel, by decide +kernel⟩
structure Env (K : PySem.W.Frag) (mg : Str → Option Value) : Prop where
  g_is_whole : mg "is_whole" = some (.ref (He.ga K "is_whole"))
  g_is_moment : mg "is_moment" = some (.ref (He.ga K "is_moment"))
  g_want_moment : mg "want_moment" = some (.ref (He.ga K "want_moment"))
  g_want_below : mg "want_below" = some (.ref (He.ga K "want_below"))
  g_moment_at : mg "moment_at" = some (.ref (He.ga K "moment_at"))
  g_clock_of : mg "clock_of" = some (.ref (He.ga K "clock_of"))
  g_show_moment : mg "show_moment" = some (.ref (He.ga K "show_moment"))
  g_are_figures : mg "are_figures" = some (.ref (He.ga K "are_figures"))
  g_number_of : mg "number_of" = some (.ref (He.ga K "number_of"))
  g_day_of : mg "day_of" = some (.ref (He.ga K "day_of"))
  g_read_moment : mg "read_moment" = some (.ref (He.ga K "read_moment"))
  g_is_number : mg "is_number" = some (.ref (He.ga K "is_number"))
  g_all_rising : mg "all_rising" = some (.ref (He.ga K "all_rising"))
  g_shorts_in : mg "shorts_in" = some (.ref (He.ga K "shorts_in"))
  g_row_moments : mg "row_moments" = some (.ref (He.ga K "row_moments"))
  g_row_many : mg "row_many" = some (.ref (He.ga K "row_many"))
  g_row_text : mg "row_text" = some (.ref (He.ga K "row_text"))
  g_number_in : mg "number_in" = some (.ref (He.ga K "number_in"))
  g_at_in : mg "at_in" = some (.ref (He.ga K "at_in"))
  g_item_end : mg "item_end" = some (.ref (He.ga K "item_end"))
  g_over_in : mg "over_in" = some (.ref (He.ga K "over_in"))
  g_read_on : mg "read_on" = some (.ref (He.ga K "read_on"))
  g_read_spread : mg "read_spread" = some (.ref (He.ga K "read_spread"))
  g__law_pot : mg "_law_pot" = some (.ref (He.ga K "_law_pot"))
  g__law_draw : mg "_law_draw" = some (.ref (He.ga K "_law_draw"))
  g__law_moments : mg "_law_moments" = some (.ref (He.ga K "_law_moments"))
  g__law_row_moments : mg "_law_row_moments" = some (.ref (He.ga K "_law_row_moments"))
  g__law_wide : mg "_law_wide" = some (.ref (He.ga K "_law_wide"))
  g__law_gap : mg "_law_gap" = some (.ref (He.ga K "_law_gap"))
  g__law_short : mg "_law_short" = some (.ref (He.ga K "_law_short"))
  g__law_row : mg "_law_row" = some (.ref (He.ga K "_law_row"))
  g__law_spread : mg "_law_spread" = some (.ref (He.ga K "_law_spread"))
  g__law_time : mg "_law_time" = some (.ref (He.ga K "_law_time"))
  g__law_word : mg "_law_word" = some (.ref (He.ga K "_law_word"))
  g__law_text : mg "_law_text" = some (.ref (He.ga K "_law_text"))
  g__law_word_of : mg "_law_word_of" = some (.ref (He.ga K "_law_word_of"))
  g__law_is_refused : mg "_law_is_refused" = some (.ref (He.ga K "_law_is_refused"))
  g__law_begin : mg "_law_begin" = some (.ref (He.ga K "_law_begin"))
  g__law_end : mg "_law_end" = some (.ref (He.ga K "_law_end"))
  g__law_many : mg "_law_many" = some (.ref (He.ga K "_law_many"))
  g__law_is_row : mg "_law_is_row" = some (.ref (He.ga K "_law_is_row"))
  g__law_number : mg "_law_number" = some (.ref (He.ga K "_law_number"))
  g__law_at_in : mg "_law_at_in" = some (.ref (He.ga K "_law_at_in"))
  g__law_over_in : mg "_law_over_in" = some (.ref (He.ga K "_law_over_in"))
  g__law_stop : mg "_law_stop" = some (.ref (He.ga K "_law_stop"))
  g__law_next : mg "_law_next" = some (.ref (He.ga K "_law_next"))
  g__law_read : mg "_law_read" = some (.ref (He.ga K "_law_read"))
  g__law_signs : mg "_law_signs" = some (.ref (He.ga K "_law_signs"))
  g__law_over_bent : mg "_law_over_bent" = some (.ref (He.ga K "_law_over_bent"))
  g__law_row_bent : mg "_law_row_bent" = some (.ref (He.ga K "_law_row_bent"))
  g__law_spoilt : mg "_law_spoilt" = some (.ref (He.ga K "_law_spoilt"))
  g__law_right : mg "_law_right" = some (.ref (He.ga K "_law_right"))
  g_law : mg "law" = some (.ref (He.ga K "law"))
  v_HOUR : ∃ u, mg "HOUR" = some u ∧ RelV (.int (60)) u
  v_DAY : ∃ u, mg "DAY" = some u ∧ RelV (.int (1440)) u
  v_HOURS : ∃ u, mg "HOURS" = some u ∧ RelV (.int (24)) u
  v_FIGURES_clock : ∃ u, mg "FIGURES_clock" = some u ∧ RelV (.str "0123456789") u
  v_COLON : ∃ u, mg "COLON" = some u ∧ RelV (.str ":") u
  v_BLANK : ∃ u, mg "BLANK" = some u ∧ RelV (.str " ") u
  v_MOST_MOMENTS : ∃ u, mg "MOST_MOMENTS" = some u ∧ RelV (.int (1440)) u
  v_MOST_NESTED : ∃ u, mg "MOST_NESTED" = some u ∧ RelV (.int (8)) u
  v_NO_PARTS : ∃ u, mg "NO_PARTS" = some u ∧ RelV (.str "-") u
  v_FIGURES_spreads : ∃ u, mg "FIGURES_spreads" = some u ∧ RelV (.str "0123456789") u
  n_ValueError : mg "ValueError" = none
  n_all : mg "all" = none
  n_bool : mg "bool" = none
  n_divmod : mg "divmod" = none
  n_int : mg "int" = none
  n_isinstance : mg "isinstance" = none
  n_len : mg "len" = none
  n_list : mg "list" = none
  n_max : mg "max" = none
  n_min : mg "min" = none
  n_range : mg "range" = none
  n_repr : mg "repr" = none
  n_str : mg "str" = none
  n_sum : mg "sum" = none
  n_tuple : mg "tuple" = none
  n_zip : mg "zip" = none
  g_GoingError : mg "GoingError" = some (.ref (He.ga K "GoingError"))
  g_NoTime : mg "NoTime" = some (.ref (He.ga K "NoTime"))
  x_NoTime : Exo K (He.ga K "NoTime") bmV "ValueError.__new__"
  g_NoPiece : mg "NoPiece" = some (.ref (He.ga K "NoPiece"))
  x_NoPiece : Exo K (He.ga K "NoPiece") bmV "ValueError.__new__"
  g_NoDays : mg "NoDays" = some (.ref (He.ga K "NoDays"))
  g_NoCard : mg "NoCard" = some (.ref (He.ga K "NoCard"))
  g_NoName : mg "NoName" = some (.ref (He.ga K "NoName"))
  g_NoRow : mg "NoRow" = some (.ref (He.ga K "NoRow"))
  g_NoText : mg "NoText" = some (.ref (He.ga K "NoText"))
  g_Short : mg "Short" = some (.ref (He.ga K "Short"))
  g_At : mg "At" = some (.ref (He.ga K "At"))
  g_Over : mg "Over" = some (.ref (He.ga K "Over"))
  g_Spread : mg "Spread" = some (.ref (He.ga K "Spread"))
  c_At : Cls K (He.ga K "At")
  i_At : InsC K (He.ga K "At")
  a_At_moment : NoAttr K (He.ga K "At") "moment"
  m_At_moments : Meth K (He.ga K "At") "moments" (He.ma K (He.ga K "At") "moments")
  m_At_begins : Meth K (He.ga K "At") "begins" (He.ma K (He.ga K "At") "begins")
  m_At_ends : Meth K (He.ga K "At") "ends" (He.ma K (He.ga K "At") "ends")
  m_At_means_many : Meth K (He.ga K "At") "means_many" (He.ma K (He.ga K "At") "means_many")
  m_At_nested : Meth K (He.ga K "At") "nested" (He.ma K (He.ga K "At") "nested")
  m_At_str : Meth K (He.ga K "At") "__str__" (He.ma K (He.ga K "At") "__str__")
  mk_At : Mk K (He.ga K "At") (He.ma K (He.ga K "At") "__init__")
  kit_At_Short : PySem.W.kitOne K (.ref (He.ga K "At")) (.ref (He.ga K "Short")) = some true
  kit_At_str : PySem.W.kitOne K (.ref (He.ga K "At")) (.type "str") = some false
  c_Over : Cls K (He.ga K "Over")
  i_Over : InsC K (He.ga K "Over")
  a_Over_kept : NoAttr K (He.ga K "Over") "kept"
  a_Over_many : NoAttr K (He.ga K "Over") "many"
  a_Over_step : NoAttr K (He.ga K "Over") "step"
  m_Over_moments : Meth K (He.ga K "Over") "moments" (He.ma K (He.ga K "Over") "moments")
  m_Over_begins : Meth K (He.ga K "Over") "begins" (He.ma K (He.ga K "Over") "begins")
  m_Over_ends : Meth K (He.ga K "Over") "ends" (He.ma K (He.ga K "Over") "ends")
  m_Over_means_many : Meth K (He.ga K "Over") "means_many" (He.ma K (He.ga K "Over") "means_many")
  m_Over_nested : Meth K (He.ga K "Over") "nested" (He.ma K (He.ga K "Over") "nested")
  m_Over_str : Meth K (He.ga K "Over") "__str__" (He.ma K (He.ga K "Over") "__str__")
  mk_Over : Mk K (He.ga K "Over") (He.ma K (He.ga K "Over") "__init__")
  kit_Over_Short : PySem.W.kitOne K (.ref (He.ga K "Over")) (.ref (He.ga K "Short")) = some true
  kit_Over_str : PySem.W.kitOne K (.ref (He.ga K "Over")) (.type "str") = some false
  c_Spread : Cls K (He.ga K "Spread")
  i_Spread : InsC K (He.ga K "Spread")
  a_Spread_kept : NoAttr K (He.ga K "Spread") "kept"
  a_Spread_held : NoAttr K (He.ga K "Spread") "held"
  m_Spread_moments : Meth K (He.ga K "Spread") "moments" (He.ma K (He.ga K "Spread") "moments")
  m_Spread_str : Meth K (He.ga K "Spread") "__str__" (He.ma K (He.ga K "Spread") "__str__")
  mk_Spread : Mk K (He.ga K "Spread") (He.ma K (He.ga K "Spread") "__init__")
  kit_Spread_str : PySem.W.kitOne K (.ref (He.ga K "Spread")) (.type "str") = some false
  exm_NoTime_NoTime : PySem.W.exmOne K (.ref (He.ga K "NoTime")) (.ref (He.ga K "NoTime")) = some true
  exm_NoPiece_GoingError : PySem.W.exmOne K (.ref (He.ga K "NoPiece")) (.ref (He.ga K "GoingError")) = some true
  xc_NoPiece : ExcC K (He.ga K "NoPiece")
  kit_NoPiece_NoTime : PySem.W.kitOne K (.ref (He.ga K "NoPiece")) (.ref (He.ga K "NoTime")) = some false
  kit_NoPiece_NoPiece : PySem.W.kitOne K (.ref (He.ga K "NoPiece")) (.ref (He.ga K "NoPiece")) = some true
  kit_NoPiece_NoDays : PySem.W.kitOne K (.ref (He.ga K "NoPiece")) (.ref (He.ga K "NoDays")) = some false
  kit_NoPiece_NoCard : PySem.W.kitOne K (.ref (He.ga K "NoPiece")) (.ref (He.ga K "NoCard")) = some false
  kit_NoPiece_NoName : PySem.W.kitOne K (.ref (He.ga K "NoPiece")) (.ref (He.ga K "NoName")) = some false
  kit_NoPiece_NoRow : PySem.W.kitOne K (.ref (He.ga K "NoPiece")) (.ref (He.ga K "NoRow")) = some false
  kit_NoPiece_NoText : PySem.W.kitOne K (.ref (He.ga K "NoPiece")) (.ref (He.ga K "NoText")) = some false
  kit_NoPiece_ValueError : PySem.W.kitOne K (.ref (He.ga K "NoPiece")) (.type "ValueError") = some true
  f_is_whole : ∃ fd, FunD K "is_whole" "is_whole" (defArgs s_is_whole) (defBody s_is_whole) (defScope s_is_whole) [] [] (He.ga K "is_whole") fd
  f_is_moment : ∃ fd, FunD K "is_moment" "is_moment" (defArgs s_is_moment) (defBody s_is_moment) (defScope s_is_moment) [] [] (He.ga K "is_moment") fd
  f_want_moment : ∃ fd, FunD K "want_moment" "want_moment" (defArgs s_want_moment) (defBody s_want_moment) (defScope s_want_moment) [] [] (He.ga K "want_moment") fd
  f_want_below : ∃ fd, FunD K "want_below" "want_below" (defArgs s_want_below) (defBody s_want_below) (defScope s_want_below) [] [] (He.ga K "want_below") fd
  f_moment_at : ∃ fd, FunD K "moment_at" "moment_at" (defArgs s_moment_at) (defBody s_moment_at) (defScope s_moment_at) [.int (0), .int (0), .int (0)] [] (He.ga K "moment_at") fd
  f_clock_of : ∃ fd, FunD K "clock_of" "clock_of" (defArgs s_clock_of) (defBody s_clock_of) (defScope s_clock_of) [] [] (He.ga K "clock_of") fd
  f_show_moment : ∃ fd, FunD K "show_moment" "show_moment" (defArgs s_show_moment) (defBody s_show_moment) (defScope s_show_moment) [] [] (He.ga K "show_moment") fd
  f_are_figures : ∃ fd, FunD K "are_figures" "are_figures" (defArgs s_are_figures) (defBody s_are_figures) (defScope s_are_figures) [] [] (He.ga K "are_figures") fd
  f_number_of : ∃ fd, FunD K "number_of" "number_of" (defArgs s_number_of) (defBody s_number_of) (defScope s_number_of) [] [] (He.ga K "number_of") fd
  f_day_of : ∃ fd, FunD K "day_of" "day_of" (defArgs s_day_of) (defBody s_day_of) (defScope s_day_of) [] [] (He.ga K "day_of") fd
  f_read_moment : ∃ fd, FunD K "read_moment" "read_moment" (defArgs s_read_moment) (defBody s_read_moment) (defScope s_read_moment) [] [] (He.ga K "read_moment") fd
  f_is_number : ∃ fd, FunD K "is_number" "is_number" (defArgs s_is_number) (defBody s_is_number) (defScope s_is_number) [] [] (He.ga K "is_number") fd
  f_all_rising : ∃ fd, FunD K "all_rising" "all_rising" (defArgs s_all_rising) (defBody s_all_rising) (defScope s_all_rising) [] [] (He.ga K "all_rising") fd
  f_shorts_in : ∃ fd, FunD K "shorts_in" "shorts_in" (defArgs s_shorts_in) (defBody s_shorts_in) (defScope s_shorts_in) [] [] (He.ga K "shorts_in") fd
  f_row_moments : ∃ fd, FunD K "row_moments" "row_moments" (defArgs s_row_moments) (defBody s_row_moments) (defScope s_row_moments) [] [] (He.ga K "row_moments") fd
  f_row_many : ∃ fd, FunD K "row_many" "row_many" (defArgs s_row_many) (defBody s_row_many) (defScope s_row_many) [] [] (He.ga K "row_many") fd
  f_row_text : ∃ fd, FunD K "row_text" "row_text" (defArgs s_row_text) (defBody s_row_text) (defScope s_row_text) [] [] (He.ga K "row_text") fd
  f_At_init : ∃ fd, FunD K "__init__" "At.__init__" (defArgs s_At_init) (defBody s_At_init) (defScope s_At_init) [] [] (He.ma K (He.ga K "At") "__init__") fd
  f_At_moments : ∃ fd, FunD K "moments" "At.moments" (defArgs s_At_moments) (defBody s_At_moments) (defScope s_At_moments) [] [] (He.ma K (He.ga K "At") "moments") fd
  f_At_begins : ∃ fd, FunD K "begins" "At.begins" (defArgs s_At_begins) (defBody s_At_begins) (defScope s_At_begins) [] [] (He.ma K (He.ga K "At") "begins") fd
  f_At_ends : ∃ fd, FunD K "ends" "At.ends" (defArgs s_At_ends) (defBody s_At_ends) (defScope s_At_ends) [] [] (He.ma K (He.ga K "At") "ends") fd
  f_At_means_many : ∃ fd, FunD K "means_many" "At.means_many" (defArgs s_At_means_many) (defBody s_At_means_many) (defScope s_At_means_many) [] [] (He.ma K (He.ga K "At") "means_many") fd
  f_At_nested : ∃ fd, FunD K "nested" "At.nested" (defArgs s_At_nested) (defBody s_At_nested) (defScope s_At_nested) [] [] (He.ma K (He.ga K "At") "nested") fd
  f_At_str : ∃ fd, FunD K "__str__" "At.__str__" (defArgs s_At_str) (defBody s_At_str) (defScope s_At_str) [] [] (He.ma K (He.ga K "At") "__str__") fd
  f_Over_init : ∃ fd, FunD K "__init__" "Over.__init__" (defArgs s_Over_init) (defBody s_Over_init) (defScope s_Over_init) [.int (2), .int (60)] [] (He.ma K (He.ga K "Over") "__init__") fd
  f_Over_moments : ∃ fd, FunD K "moments" "Over.moments" (defArgs s_Over_moments) (defBody s_Over_moments) (defScope s_Over_moments) [] [] (He.ma K (He.ga K "Over") "moments") fd
  f_Over_begins : ∃ fd, FunD K "begins" "Over.begins" (defArgs s_Over_begins) (defBody s_Over_begins) (defScope s_Over_begins) [] [] (He.ma K (He.ga K "Over") "begins") fd
  f_Over_ends : ∃ fd, FunD K "ends" "Over.ends" (defArgs s_Over_ends) (defBody s_Over_ends) (defScope s_Over_ends) [] [] (He.ma K (He.ga K "Over") "ends") fd
  f_Over_means_many : ∃ fd, FunD K "means_many" "Over.means_many" (defArgs s_Over_means_many) (defBody s_Over_means_many) (defScope s_Over_means_many) [] [] (He.ma K (He.ga K "Over") "means_many") fd
  f_Over_nested : ∃ fd, FunD K "nested" "Over.nested" (defArgs s_Over_nested) (defBody s_Over_nested) (defScope s_Over_nested) [] [] (He.ma K (He.ga K "Over") "nested") fd
  f_Over_str : ∃ fd, FunD K "__str__" "Over.__str__" (defArgs s_Over_str) (defBody s_Over_str) (defScope s_Over_str) [] [] (He.ma K (He.ga K "Over") "__str__") fd
  f_Spread_init : ∃ fd, FunD K "__init__" "Spread.__init__" (defArgs s_Spread_init) (defBody s_Spread_init) (defScope s_Spread_init) [] [] (He.ma K (He.ga K "Spread") "__init__") fd
  f_Spread_moments : ∃ fd, FunD K "moments" "Spread.moments" (defArgs s_Spread_moments) (defBody s_Spread_moments) (defScope s_Spread_moments) [] [] (He.ma K (He.ga K "Spread") "moments") fd
  f_Spread_str : ∃ fd, FunD K "__str__" "Spread.__str__" (defArgs s_Spread_str) (defBody s_Spread_str) (defScope s_Spread_str) [] [] (He.ma K (He.ga K "Spread") "__str__") fd
  f_number_in : ∃ fd, FunD K "number_in" "number_in" (defArgs s_number_in) (defBody s_number_in) (defScope s_number_in) [] [] (He.ga K "number_in") fd
  f_at_in : ∃ fd, FunD K "at_in" "at_in" (defArgs s_at_in) (defBody s_at_in) (defScope s_at_in) [] [] (He.ga K "at_in") fd
  f_item_end : ∃ fd, FunD K "item_end" "item_end" (defArgs s_item_end) (defBody s_item_end) (defScope s_item_end) [] [] (He.ga K "item_end") fd
  f_over_in : ∃ fd, FunD K "over_in" "over_in" (defArgs s_over_in) (defBody s_over_in) (defScope s_over_in) [] [] (He.ga K "over_in") fd
  f_read_on : ∃ fd, FunD K "read_on" "read_on" (defArgs s_read_on) (defBody s_read_on) (defScope s_read_on) [] [] (He.ga K "read_on") fd
  f_read_spread : ∃ fd, FunD K "read_spread" "read_spread" (defArgs s_read_spread) (defBody s_read_spread) (defScope s_read_spread) [] [] (He.ga K "read_spread") fd
  f__law_pot : ∃ fd, FunD K "_law_pot" "_law_pot" (defArgs s__law_pot) (defBody s__law_pot) (defScope s__law_pot) [] [] (He.ga K "_law_pot") fd
  f__law_draw : ∃ fd, FunD K "_law_draw" "_law_draw" (defArgs s__law_draw) (defBody s__law_draw) (defScope s__law_draw) [] [] (He.ga K "_law_draw") fd
  f__law_moments : ∃ fd, FunD K "_law_moments" "_law_moments" (defArgs s__law_moments) (defBody s__law_moments) (defScope s__law_moments) [] [] (He.ga K "_law_moments") fd
  f__law_row_moments : ∃ fd, FunD K "_law_row_moments" "_law_row_moments" (defArgs s__law_row_moments) (defBody s__law_row_moments) (defScope s__law_row_moments) [] [] (He.ga K "_law_row_moments") fd
  f__law_wide : ∃ fd, FunD K "_law_wide" "_law_wide" (defArgs s__law_wide) (defBody s__law_wide) (defScope s__law_wide) [] [] (He.ga K "_law_wide") fd
  f__law_gap : ∃ fd, FunD K "_law_gap" "_law_gap" (defArgs s__law_gap) (defBody s__law_gap) (defScope s__law_gap) [] [] (He.ga K "_law_gap") fd
  f__law_short : ∃ fd, FunD K "_law_short" "_law_short" (defArgs s__law_short) (defBody s__law_short) (defScope s__law_short) [] [] (He.ga K "_law_short") fd
  f__law_row : ∃ fd, FunD K "_law_row" "_law_row" (defArgs s__law_row) (defBody s__law_row) (defScope s__law_row) [] [] (He.ga K "_law_row") fd
  f__law_spread : ∃ fd, FunD K "_law_spread" "_law_spread" (defArgs s__law_spread) (defBody s__law_spread) (defScope s__law_spread) [] [] (He.ga K "_law_spread") fd
  f__law_time : ∃ fd, FunD K "_law_time" "_law_time" (defArgs s__law_time) (defBody s__law_time) (defScope s__law_time) [] [] (He.ga K "_law_time") fd
  f__law_word : ∃ fd, FunD K "_law_word" "_law_word" (defArgs s__law_word) (defBody s__law_word) (defScope s__law_word) [] [] (He.ga K "_law_word") fd
  f__law_text : ∃ fd, FunD K "_law_text" "_law_text" (defArgs s__law_text) (defBody s__law_text) (defScope s__law_text) [] [] (He.ga K "_law_text") fd
  f__law_word_of : ∃ fd, FunD K "_law_word_of" "_law_word_of" (defArgs s__law_word_of) (defBody s__law_word_of) (defScope s__law_word_of) [] [] (He.ga K "_law_word_of") fd
  f__law_is_refused : ∃ fd, FunD K "_law_is_refused" "_law_is_refused" (defArgs s__law_is_refused) (defBody s__law_is_refused) (defScope s__law_is_refused) [] [] (He.ga K "_law_is_refused") fd
  f__law_begin : ∃ fd, FunD K "_law_begin" "_law_begin" (defArgs s__law_begin) (defBody s__law_begin) (defScope s__law_begin) [] [] (He.ga K "_law_begin") fd
  f__law_end : ∃ fd, FunD K "_law_end" "_law_end" (defArgs s__law_end) (defBody s__law_end) (defScope s__law_end) [] [] (He.ga K "_law_end") fd
  f__law_many : ∃ fd, FunD K "_law_many" "_law_many" (defArgs s__law_many) (defBody s__law_many) (defScope s__law_many) [] [] (He.ga K "_law_many") fd
  f__law_is_row : ∃ fd, FunD K "_law_is_row" "_law_is_row" (defArgs s__law_is_row) (defBody s__law_is_row) (defScope s__law_is_row) [] [] (He.ga K "_law_is_row") fd
  f__law_number : ∃ fd, FunD K "_law_number" "_law_number" (defArgs s__law_number) (defBody s__law_number) (defScope s__law_number) [] [] (He.ga K "_law_number") fd
  f__law_at_in : ∃ fd, FunD K "_law_at_in" "_law_at_in" (defArgs s__law_at_in) (defBody s__law_at_in) (defScope s__law_at_in) [] [] (He.ga K "_law_at_in") fd
  f__law_over_in : ∃ fd, FunD K "_law_over_in" "_law_over_in" (defArgs s__law_over_in) (defBody s__law_over_in) (defScope s__law_over_in) [] [] (He.ga K "_law_over_in") fd
  f__law_stop : ∃ fd, FunD K "_law_stop" "_law_stop" (defArgs s__law_stop) (defBody s__law_stop) (defScope s__law_stop) [] [] (He.ga K "_law_stop") fd
  f__law_next : ∃ fd, FunD K "_law_next" "_law_next" (defArgs s__law_next) (defBody s__law_next) (defScope s__law_next) [] [] (He.ga K "_law_next") fd
  f__law_read : ∃ fd, FunD K "_law_read" "_law_read" (defArgs s__law_read) (defBody s__law_read) (defScope s__law_read) [] [] (He.ga K "_law_read") fd
  f__law_signs : ∃ fd, FunD K "_law_signs" "_law_signs" (defArgs s__law_signs) (defBody s__law_signs) (defScope s__law_signs) [] [] (He.ga K "_law_signs") fd
  f__law_over_bent : ∃ fd, FunD K "_law_over_bent" "_law_over_bent" (defArgs s__law_over_bent) (defBody s__law_over_bent) (defScope s__law_over_bent) [] [] (He.ga K "_law_over_bent") fd
  f__law_row_bent : ∃ fd, FunD K "_law_row_bent" "_law_row_bent" (defArgs s__law_row_bent) (defBody s__law_row_bent) (defScope s__law_row_bent) [] [] (He.ga K "_law_row_bent") fd
  f__law_spoilt : ∃ fd, FunD K "_law_spoilt" "_law_spoilt" (defArgs s__law_spoilt) (defBody s__law_spoilt) (defScope s__law_spoilt) [] [] (He.ga K "_law_spoilt") fd
  f__law_right : ∃ fd, FunD K "_law_right" "_law_right" (defArgs s__law_right) (defBody s__law_right) (defScope s__law_right) [] [] (He.ga K "_law_right") fd
  f_law : ∃ fd, FunD K "law" "law" (defArgs s_law) (defBody s_law) (defScope s_law) [] [] (He.ga K "law") fd
end Toy
namespace Toy
open PySem PySem.Spec PyProof.Rows L2 L3
theorem Env.k_is_whole {K : PySem.W.Frag} {mg : Str → Option Value} (T : Env K mg) : PySem.W.keepIn K (.ref (He.ga K "is_whole")) = true := let ⟨_, F⟩ := T.f_is_whole; F.kp
theorem Env.k_is_moment {K : PySem.W.Frag} {mg : Str → Option Value} (T : Env K mg) : PySem.W.keepIn K (.ref (He.ga K "is_moment")) = true := let ⟨_, F⟩ := T.f_is_moment; F.kp
theorem Env.k_want_moment {K : PySem.W.Frag} {mg : Str → Option Value} (T : Env K mg) : PySem.W.keepIn K (.ref (He.ga K "want_moment")) = true := let ⟨_, F⟩ := T.f_want_moment; F.kp
theorem Env.k_want_below {K : PySem.W.Frag} {mg : Str → Option Value} (T : Env K mg) : PySem.W.keepIn K (.ref (He.ga K "want_below")) = true := let ⟨_, F⟩ := T.f_want_below; F.kp
theorem Env.k_moment_at {K : PySem.W.Frag} {mg : Str → Option Value} (T : Env K mg) : PySem.W.keepIn K (.ref (He.ga K "moment_at")) = true := let ⟨_, F⟩ := T.f_moment_at; F.kp
theorem Env.k_clock_of {K : PySem.W.Frag} {mg : Str → Option Value} (T : Env K mg) : PySem.W.keepIn K (.ref (He.ga K "clock_of")) = true := let ⟨_, F⟩ := T.f_clock_of; F.kp
theorem Env.k_show_moment {K : PySem.W.Frag} {mg : Str → Option Value} (T : Env K mg) : PySem.W.keepIn K (.ref (He.ga K "show_moment")) = true := let ⟨_, F⟩ := T.f_show_moment; F.kp
theorem Env.k_are_figures {K : PySem.W.Frag} {mg : Str → Option Value} (T : Env K mg) : PySem.W.keepIn K (.ref (He.ga K "are_figures")) = true := let ⟨_, F⟩ := T.f_are_figures; F.kp
theorem Env.k_number_of {K : PySem.W.Frag} {mg : Str → Option Value} (T : Env K mg) : PySem.W.keepIn K (.ref (He.ga K "number_of")) = true := let ⟨_, F⟩ := T.f_number_of; F.kp
theorem Env.k_day_of {K : PySem.W.Frag} {mg : Str → Option Value} (T : Env K mg) : PySem.W.keepIn K (.ref (He.ga K "day_of")) = true := let ⟨_, F⟩ := T.f_day_of; F.kp
theorem Env.k_read_moment {K : PySem.W.Frag} {mg : Str → Option Value} (T : Env K mg) : PySem.W.keepIn K (.ref (He.ga K "read_moment")) = true := let ⟨_, F⟩ := T.f_read_moment; F.kp
theorem Env.k_is_number {K : PySem.W.Frag} {mg : Str → Option Value} (T : Env K mg) : PySem.W.keepIn K (.ref (He.ga K "is_number")) = true := let ⟨_, F⟩ := T.f_is_number; F.kp
theorem Env.k_all_rising {K : PySem.W.Frag} {mg : Str → Option Value} (T : Env K mg) : PySem.W.keepIn K (.ref (He.ga K "all_rising")) = true := let ⟨_, F⟩ := T.f_all_rising; F.kp
theorem Env.k_shorts_in {K : PySem.W.Frag} {mg : Str → Option Value} (T : Env K mg) : PySem.W.keepIn K (.ref (He.ga K "shorts_in")) = true := let ⟨_, F⟩ := T.f_shorts_in; F.kp
theorem Env.k_row_moments {K : PySem.W.Frag} {mg : Str → Option Value} (T : Env K mg) : PySem.W.keepIn K (.ref (He.ga K "row_moments")) = true := let ⟨_, F⟩ := T.f_row_moments; F.kp
theorem Env.k_row_many {K : PySem.W.Frag} {mg : Str → Option Value} (T : Env K mg) : PySem.W.keepIn K (.ref (He.ga K "row_many")) = true := let ⟨_, F⟩ := T.f_row_many; F.kp
theorem Env.k_row_text {K : PySem.W.Frag} {mg : Str → Option Value} (T : Env K mg) : PySem.W.keepIn K (.ref (He.ga K "row_text")) = true := let ⟨_, F⟩ := T.f_row_text; F.kp
theorem Env.k_number_in {K : PySem.W.Frag} {mg : Str → Option Value} (T : Env K mg) : PySem.W.keepIn K (.ref (He.ga K "number_in")) = true := let ⟨_, F⟩ := T.f_number_in; F.kp
theorem Env.k_at_in {K : PySem.W.Frag} {mg : Str → Option Value} (T : Env K mg) : PySem.W.keepIn K (.ref (He.ga K "at_in")) = true := let ⟨_, F⟩ := T.f_at_in; F.kp
theorem Env.k_item_end {K : PySem.W.Frag} {mg : Str → Option Value} (T : Env K mg) : PySem.W.keepIn K (.ref (He.ga K "item_end")) = true := let ⟨_, F⟩ := T.f_item_end; F.kp
theorem Env.k_over_in {K : PySem.W.Frag} {mg : Str → Option Value} (T : Env K mg) : PySem.W.keepIn K (.ref (He.ga K "over_in")) = true := let ⟨_, F⟩ := T.f_over_in; F.kp
theorem Env.k_read_on {K : PySem.W.Frag} {mg : Str → Option Value} (T : Env K mg) : PySem.W.keepIn K (.ref (He.ga K "read_on")) = true := let ⟨_, F⟩ := T.f_read_on; F.kp
theorem Env.k_read_spread {K : PySem.W.Frag} {mg : Str → Option Value} (T : Env K mg) : PySem.W.keepIn K (.ref (He.ga K "read_spread")) = true := let ⟨_, F⟩ := T.f_read_spread; F.kp
theorem Env.k__law_pot {K : PySem.W.Frag} {mg : Str → Option Value} (T : Env K mg) : PySem.W.keepIn K (.ref (He.ga K "_law_pot")) = true := let ⟨_, F⟩ := T.f__law_pot; F.kp
theorem Env.k__law_draw {K : PySem.W.Frag} {mg : Str → Option Value} (T : Env K mg) : PySem.W.keepIn K (.ref (He.ga K "_law_draw")) = true := let ⟨_, F⟩ := T.f__law_draw; F.kp
theorem Env.k__law_moments {K : PySem.W.Frag} {mg : Str → Option Value} (T : Env K mg) : PySem.W.keepIn K (.ref (He.ga K "_law_moments")) = true := let ⟨_, F⟩ := T.f__law_moments; F.kp
theorem Env.k__law_row_moments {K : PySem.W.Frag} {mg : Str → Option Value} (T : Env K mg) : PySem.W.keepIn K (.ref (He.ga K "_law_row_moments")) = true := let ⟨_, F⟩ := T.f__law_row_moments; F.kp
theorem Env.k__law_wide {K : PySem.W.Frag} {mg : Str → Option Value} (T : Env K mg) : PySem.W.keepIn K (.ref (He.ga K "_law_wide")) = true := let ⟨_, F⟩ := T.f__law_wide; F.kp
theorem Env.k__law_gap {K : PySem.W.Frag} {mg : Str → Option Value} (T : Env K mg) : PySem.W.keepIn K (.ref (He.ga K "_law_gap")) = true := let ⟨_, F⟩ := T.f__law_gap; F.kp
theorem Env.k__law_short {K : PySem.W.Frag} {mg : Str → Option Value} (T : Env K mg) : PySem.W.keepIn K (.ref (He.ga K "_law_short")) = true := let ⟨_, F⟩ := T.f__law_short; F.kp
theorem Env.k__law_row {K : PySem.W.Frag} {mg : Str → Option Value} (T : Env K mg) : PySem.W.keepIn K (.ref (He.ga K "_law_row")) = true := let ⟨_, F⟩ := T.f__law_row; F.kp
theorem Env.k__law_spread {K : PySem.W.Frag} {mg : Str → Option Value} (T : Env K mg) : PySem.W.keepIn K (.ref (He.ga K "_law_spread")) = true := let ⟨_, F⟩ := T.f__law_spread; F.kp
theorem Env.k__law_time {K : PySem.W.Frag} {mg : Str → Option Value} (T : Env K mg) : PySem.W.keepIn K (.ref (He.ga K "_law_time")) = true := let ⟨_, F⟩ := T.f__law_time; F.kp
theorem Env.k__law_word {K : PySem.W.Frag} {mg : Str → Option Value} (T : Env K mg) : PySem.W.keepIn K (.ref (He.ga K "_law_word")) = true := let ⟨_, F⟩ := T.f__law_word; F.kp
theorem Env.k__law_text {K : PySem.W.Frag} {mg : Str → Option Value} (T : Env K mg) : PySem.W.keepIn K (.ref (He.ga K "_law_text")) = true := let ⟨_, F⟩ := T.f__law_text; F.kp
theorem Env.k__law_word_of {K : PySem.W.Frag} {mg : Str → Option Value} (T : Env K mg) : PySem.W.keepIn K (.ref (He.ga K "_law_word_of")) = true := let ⟨_, F⟩ := T.f__law_word_of; F.kp
theorem Env.k__law_is_refused {K : PySem.W.Frag} {mg : Str → Option Value} (T : Env K mg) : PySem.W.keepIn K (.ref (He.ga K "_law_is_refused")) = true := let ⟨_, F⟩ := T.f__law_is_refused; F.kp
theorem Env.k__law_begin {K : PySem.W.Frag} {mg : Str → Option Value} (T : Env K mg) : PySem.W.keepIn K (.ref (He.ga K "_law_begin")) = true := let ⟨_, F⟩ := T.f__law_begin; F.kp
theorem Env.k__law_end {K : PySem.W.Frag} {mg : Str → Option Value} (T : Env K mg) : PySem.W.keepIn K (.ref (He.ga K "_law_end")) = true := let ⟨_, F⟩ := T.f__law_end; F.kp
theorem Env.k__law_many {K : PySem.W.Frag} {mg : Str → Option Value} (T : Env K mg) : PySem.W.keepIn K (.ref (He.ga K "_law_many")) = true := let ⟨_, F⟩ := T.f__law_many; F.kp
theorem Env.k__law_is_row {K : PySem.W.Frag} {mg : Str → Option Value} (T : Env K mg) : PySem.W.keepIn K (.ref (He.ga K "_law_is_row")) = true := let ⟨_, F⟩ := T.f__law_is_row; F.kp
theorem Env.k__law_number {K : PySem.W.Frag} {mg : Str → Option Value} (T : Env K mg) : PySem.W.keepIn K (.ref (He.ga K "_law_number")) = true := let ⟨_, F⟩ := T.f__law_number; F.kp
theorem Env.k__law_at_in {K : PySem.W.Frag} {mg : Str → Option Value} (T : Env K mg) : PySem.W.keepIn K (.ref (He.ga K "_law_at_in")) = true := let ⟨_, F⟩ := T.f__law_at_in; F.kp
theorem Env.k__law_over_in {K : PySem.W.Frag} {mg : Str → Option Value} (T : Env K mg) : PySem.W.keepIn K (.ref (He.ga K "_law_over_in")) = true := let ⟨_, F⟩ := T.f__law_over_in; F.kp
theorem Env.k__law_stop {K : PySem.W.Frag} {mg : Str → Option Value} (T : Env K mg) : PySem.W.keepIn K (.ref (He.ga K "_law_stop")) = true := let ⟨_, F⟩ := T.f__law_stop; F.kp
theorem Env.k__law_next {K : PySem.W.Frag} {mg : Str → Option Value} (T : Env K mg) : PySem.W.keepIn K (.ref (He.ga K "_law_next")) = true := let ⟨_, F⟩ := T.f__law_next; F.kp
theorem Env.k__law_read {K : PySem.W.Frag} {mg : Str → Option Value} (T : Env K mg) : PySem.W.keepIn K (.ref (He.ga K "_law_read")) = true := let ⟨_, F⟩ := T.f__law_read; F.kp
theorem Env.k__law_signs {K : PySem.W.Frag} {mg : Str → Option Value} (T : Env K mg) : PySem.W.keepIn K (.ref (He.ga K "_law_signs")) = true := let ⟨_, F⟩ := T.f__law_signs; F.kp
theorem Env.k__law_over_bent {K : PySem.W.Frag} {mg : Str → Option Value} (T : Env K mg) : PySem.W.keepIn K (.ref (He.ga K "_law_over_bent")) = true := let ⟨_, F⟩ := T.f__law_over_bent; F.kp
theorem Env.k__law_row_bent {K : PySem.W.Frag} {mg : Str → Option Value} (T : Env K mg) : PySem.W.keepIn K (.ref (He.ga K "_law_row_bent")) = true := let ⟨_, F⟩ := T.f__law_row_bent; F.kp
theorem Env.k__law_spoilt {K : PySem.W.Frag} {mg : Str → Option Value} (T : Env K mg) : PySem.W.keepIn K (.ref (He.ga K "_law_spoilt")) = true := let ⟨_, F⟩ := T.f__law_spoilt; F.kp
theorem Env.k__law_right {K : PySem.W.Frag} {mg : Str → Option Value} (T : Env K mg) : PySem.W.keepIn K (.ref (He.ga K "_law_right")) = true := let ⟨_, F⟩ := T.f__law_right; F.kp
section
def sp_is_whole (K : PySem.W.Frag) : Sp := fun vs H Q _ => ∃ x, vs = [x] ∧ Cl K H x ∧ Q (.bl (isW x)) H
theorem fb_is_whole {P : Program} {w : World} {K : PySem.W.Frag} {mg : Str → Option Value} {base : Heap} (T : Env K mg) : ∃ fd, FunD K "is_whole" "is_whole" (defArgs s_is_whole) (defBody s_is_whole) (defScope s_is_whole) [] [] (He.ga K "is_whole") fd ∧ Fb P w K mg base 1 (He.ga K "is_whole") fd ["thing"] (sp_is_whole K) := by
  obtain ⟨fd, F⟩ := T.f_is_whole
  refine ⟨fd, F, fb_of F sc_is_whole (fun vs H Q E h => ?_) (fun cdv A outer s H vs Q E hr h => ?_)⟩
  · obtain ⟨x, rfl, _⟩ := h
    rfl
  · obtain ⟨x, rfl, ⟨t, b, c, ty, h1, h2, e⟩, q⟩ := h
    refine ⟨_, (pss_one (ps_ret (pe_and (pe_callB call_isi (by rfl) T.n_isinstance (by decide +kernel) (pa_cons (pv 0) (pa_cons (pe_bltn (v := .ty "int") (by rfl) T.n_int (by decide +kernel) rfl) pa_nil))) (pe_one (pe_not (pe_callB call_isi (by rfl) T.n_isinstance (by decide +kernel) (pa_cons (pv 0) (pa_cons (pe_bltn (v := .ty "bool") (by rfl) T.n_bool (by decide +kernel) rfl) pa_nil)))))))), ?_⟩
    refine ⟨x, rfl, x, .ty "int", t, _, b, rfl, .ty "int", ty, h1, b, rfl, ?_⟩
    rw [e] at q
    cases b with
    | false => exact q
    | true => exact ⟨x, rfl, x, .ty "bool", t, _, c, rfl, .ty "bool", ty, h2, c, rfl, q⟩
theorem ok_is_whole {P : Program} {w : World} {K : PySem.W.Frag} {mg : Str → Option Value} {base : Heap} (T : Env K mg) : Fc P w K mg base 1 (He.ga K "is_whole") [] (sp_is_whole K ) := by
  obtain ⟨fd, D, F⟩ := fb_is_whole T
  exact F.all (D.bindsN fun _ _ _ _ _ _ us hl => match us, hl with | [_], _ => rfl)
end
section
def sp_is_moment (K : PySem.W.Frag) : Sp := fun vs H Q _ => ∃ x, vs = [x] ∧ Cl K H x ∧ Q (.bl (isM x)) H
theorem fb_is_moment {P : Program} {w : World} {K : PySem.W.Frag} {mg : Str → Option Value} {base : Heap} (T : Env K mg) : ∃ fd, FunD K "is_moment" "is_moment" (defArgs s_is_moment) (defBody s_is_moment) (defScope s_is_moment) [] [] (He.ga K "is_moment") fd ∧ Fb P w K mg base 2 (He.ga K "is_moment") fd ["thing"] (sp_is_moment K) := by
  obtain ⟨fd, F⟩ := T.f_is_moment
  refine ⟨fd, F, fb_of F sc_is_moment (fun vs H Q E h => ?_) (fun cdv A outer s H vs Q E hr h => ?_)⟩
  · obtain ⟨x, rfl, _⟩ := h
    rfl
  · obtain ⟨x, rfl, cl, q⟩ := h
    refine ⟨_, (pss_one (ps_ret (pe_and (c_call (ok_is_whole T) (hr.mono (by decide)) T.g_is_whole T.k_is_whole takes0 (pa_cons (pv 0) pa_nil)) (pe_one (pe_cmpR op_ge (pv 0) pe_int (nomark _)))))), ?_⟩
    refine ⟨x, rfl, x, rfl, cl, isW x, rfl, ?_⟩
    cases x with
    | int i => exact ⟨_, rfl, i, 0, rfl, rfl, q⟩
    | _ => exact q
theorem ok_is_moment {P : Program} {w : World} {K : PySem.W.Frag} {mg : Str → Option Value} {base : Heap} (T : Env K mg) : Fc P w K mg base 2 (He.ga K "is_moment") [] (sp_is_moment K ) := by
  obtain ⟨fd, D, F⟩ := fb_is_moment T
  exact F.all (D.bindsN fun _ _ _ _ _ _ us hl => match us, hl with | [_], _ => rfl)
end
section
def sp_want_moment (K : PySem.W.Frag) : Sp := fun vs H Q E => ∃ x, vs = [x] ∧ Cl K H x ∧ (isM x = true → Q .non H) ∧ (isM x = false → E (.ref (He.ga K "NoTime")) none H)
theorem fb_want_moment {P : Program} {w : World} {K : PySem.W.Frag} {mg : Str → Option Value} {base : Heap} (T : Env K mg) : ∃ fd, FunD K "want_moment" "want_moment" (defArgs s_want_moment) (defBody s_want_moment) (defScope s_want_moment) [] [] (He.ga K "want_moment") fd ∧ FbN P w K mg base 3 (He.ga K "want_moment") fd ["thing"] (sp_want_moment K) := by
  obtain ⟨fd, F⟩ := T.f_want_moment
  refine ⟨fd, F, fbN_of F sc_want_moment (fun vs H Q E h => ?_) (fun cdv A outer s H vs Q E hr h => ?_)⟩
  · obtain ⟨x, rfl, _⟩ := h
    rfl
  · obtain ⟨x, rfl, cl, q, qe⟩ := h
    refine ⟨_, (pss_one (ps_if (pt_not (pt_val (c_call (ok_is_moment T) (hr.mono (by decide)) T.g_is_moment T.k_is_moment takes0 (pa_cons (pv 0) pa_nil))))
      (pss_one (L2N.ps_raise rfl (L2N.takes_of rfl rfl rfl rfl) (L2N.pmk_own PySem.F.excBase_ValueError T.x_NoTime.x T.g_NoTime T.x_NoTime.kp (raises_own T.x_NoTime.sub T.x_NoTime.ty) rfl)))
      pss_nil)), ?_⟩
    refine ⟨x, rfl, x, rfl, cl, isM x, rfl, ?_⟩
    cases e : isM x with
    | true => exact q e
    | false => exact qe e
theorem okN_want_moment {P : Program} {w : World} {K : PySem.W.Frag} {mg : Str → Option Value} {base : Heap} (T : Env K mg) : FcN P w K mg base 3 (He.ga K "want_moment") [] (sp_want_moment K ) := by
  obtain ⟨fd, D, F⟩ := fb_want_moment T
  exact F.all (D.bindsN fun _ _ _ _ _ _ us hl => match us, hl with | [_], _ => rfl)
theorem ok_want_moment {P : Program} {w : World} {K : PySem.W.Frag} {mg : Str → Option Value} {base : Heap} (T : Env K mg) : Fc P w K mg base 3 (He.ga K "want_moment") [] (sp_want_moment K ) := (okN_want_moment T).fc
end
section
def sp_want_below (K : PySem.W.Frag) : Sp := fun vs H Q E => ∃ x n, vs = [x, .int n] ∧ Cl K H x ∧ (isB n x = true → Q .non H) ∧ (isB n x = false → E (.ref (He.ga K "NoTime")) none H)
theorem fb_want_below {P : Program} {w : World} {K : PySem.W.Frag} {mg : Str → Option Value} {base : Heap} (T : Env K mg) : ∃ fd, FunD K "want_below" "want_below" (defArgs s_want_below) (defBody s_want_below) (defScope s_want_below) [] [] (He.ga K "want_below") fd ∧ FbN P w K mg base 4 (He.ga K "want_below") fd ["thing", "many"] (sp_want_below K) := by
  obtain ⟨fd, F⟩ := T.f_want_below
  refine ⟨fd, F, fbN_of F sc_want_below (fun vs H Q E h => ?_) (fun cdv A outer s H vs Q E hr h => ?_)⟩
  · obtain ⟨x, n, rfl, _⟩ := h
    rfl
  · obtain ⟨x, n, rfl, cl, q, qe⟩ := h
    refine ⟨_, (pss_cons (ps_expr (c_callN (okN_want_moment T) (hr.mono (by decide)) T.g_want_moment T.k_want_moment (L2N.takes_of rfl rfl rfl rfl) (pa_cons (pv 0) pa_nil)))
      (pss_one (ps_if (pt_cmpR op_ge (pv 0) (pv 1) (nomark _))
      (pss_one (L2N.ps_raise rfl (L2N.takes_of rfl rfl rfl rfl) (L2N.pmk_own PySem.F.excBase_ValueError T.x_NoTime.x T.g_NoTime T.x_NoTime.kp (raises_own T.x_NoTime.sub T.x_NoTime.ty) rfl)))
      pss_nil))), ?_⟩
    refine ⟨x, rfl, x, rfl, cl, fun e => ?_, fun e => ?_⟩
    · obtain ⟨i, rfl, hi⟩ := isM_w e
      refine ⟨_, rfl, _, rfl, i, n, rfl, rfl, _, rfl, ite2 (fun c => ?_) (fun c => ?_)⟩
      · have c2 : n ≤ i := of_decide_eq_true c
        exact qe (show (decide (0 ≤ i) && decide (i < n)) = false by rw [decide_eq_false (show ¬ i < n by omega), Bool.and_false])
      · have c2 : ¬ n ≤ i := fun z => c (decide_eq_true z)
        exact q (show (decide (0 ≤ i) && decide (i < n)) = true by rw [decide_eq_true hi, decide_eq_true (show i < n by omega)]; rfl)
    · refine qe ?_
      cases x with
      | int i => exact (show (decide (0 ≤ i) && decide (i < n)) = false by rw [show decide (0 ≤ i) = false from e]; rfl)
      | _ => rfl
theorem okN_want_below {P : Program} {w : World} {K : PySem.W.Frag} {mg : Str → Option Value} {base : Heap} (T : Env K mg) : FcN P w K mg base 4 (He.ga K "want_below") [] (sp_want_below K ) := by
  obtain ⟨fd, D, F⟩ := fb_want_below T
  exact F.all (D.bindsN fun _ _ _ _ _ _ us hl => match us, hl with | [_, _], _ => rfl)
end
section
/-- what moment_at tells -/
def isMA (a b c : V) : Bool := isM a && (isB 24 b && isB 60 c)
def sp_moment_at (K : PySem.W.Frag) : Sp := fun vs H Q E => ∃ a b c, vs = [a, b, c] ∧ Cl K H a ∧ Cl K H b ∧ Cl K H c ∧ (∀ d h m : Int, a = .int d → b = .int h → c = .int m → isMA a b c = true → Q (.int (d * 1440 + h * 60 + m)) H) ∧ (isMA a b c = false → E (.ref (He.ga K "NoTime")) none H)
theorem fb_moment_at {P : Program} {w : World} {K : PySem.W.Frag} {mg : Str → Option Value} {base : Heap} (T : Env K mg) : ∃ fd, FunD K "moment_at" "moment_at" (defArgs s_moment_at) (defBody s_moment_at) (defScope s_moment_at) [.int (0), .int (0), .int (0)] [] (He.ga K "moment_at") fd ∧ FbN P w K mg base 5 (He.ga K "moment_at") fd ["day", "hour", "minute"] (sp_moment_at K) := by
  obtain ⟨fd, F⟩ := T.f_moment_at
  refine ⟨fd, F, fbN_of F sc_moment_at (fun vs H Q E h => ?_) (fun cdv A outer s H vs Q E hr h => ?_)⟩
  · obtain ⟨a, b, c, rfl, _⟩ := h
    rfl
  · obtain ⟨a, b, c, rfl, ca, cb, cc, q, qe⟩ := h
    refine ⟨_, (pss_cons (ps_expr (c_callN (okN_want_moment T) (hr.mono (by decide)) T.g_want_moment T.k_want_moment (L2N.takes_of rfl rfl rfl rfl) (pa_cons (pv 0) pa_nil)))
      (pss_cons (ps_expr (c_callN (okN_want_below T) (hr.mono (by decide)) T.g_want_below T.k_want_below (L2N.takes_of rfl rfl rfl rfl) (pa_cons (pv 1) (pa_cons (pe_k T.v_HOURS) pa_nil))))
      (pss_cons (ps_expr (c_callN (okN_want_below T) (hr.mono (by decide)) T.g_want_below T.k_want_below (L2N.takes_of rfl rfl rfl rfl) (pa_cons (pv 2) (pa_cons (pe_k T.v_HOUR) pa_nil))))
      (pss_one (ps_ret (pe_op op_add (pe_op op_add (pe_op op_mul (pv 0) (pe_k T.v_DAY)) (pe_op op_mul (pv 1) (pe_k T.v_HOUR))) (pv 2))))))), ?_⟩
    refine ⟨a, rfl, a, rfl, ca, fun ea => ?_, fun ea => qe (by unfold isMA; rw [ea]; rfl)⟩
    refine ⟨b, rfl, b, 24, rfl, cb, fun eb => ?_, fun eb => qe (by unfold isMA; rw [ea, eb]; rfl)⟩
    refine ⟨c, rfl, c, 60, rfl, cc, fun ec => ?_, fun ec => qe (by unfold isMA; rw [ea, eb, ec]; rfl)⟩
    cases a with
    | int d =>
      cases b with
      | int h =>
        cases c with
        | int m =>
          refine ⟨_, rfl, _, _, rfl, rfl, .inr (by decide), _, rfl, _, _, rfl, rfl, .inr (by decide), _, _, rfl, rfl, _, rfl, _, _, rfl, rfl, ?_⟩
          exact q d h m rfl rfl rfl (by unfold isMA; rw [ea, eb, ec]; rfl)
        | _ => cases ec
      | _ => cases eb
    | _ => cases ea
theorem ma_good {K : PySem.W.Frag} {H : Hp} {Q : VK} {E : XK} {d h m : Int} (d0 : 0 ≤ d) (h0 : 0 ≤ h) (h1 : h < 24) (m0 : 0 ≤ m) (m1 : m < 60) (q : Q (.int (d * 1440 + h * 60 + m)) H) : sp_moment_at K [.int d, .int h, .int m] H Q E := by
  have e : isMA (.int d) (.int h) (.int m) = true := by
    show (decide (0 ≤ d) && ((decide (0 ≤ h) && decide (h < 24)) && (decide (0 ≤ m) && decide (m < 60)))) = true
    rw [decide_eq_true d0, decide_eq_true h0, decide_eq_true h1, decide_eq_true m0, decide_eq_true m1]
    rfl
  exact ⟨_, _, _, rfl, cl_int _, cl_int _, cl_int _, fun _ _ _ e1 e2 e3 _ => by cases e1; cases e2; cases e3; exact q, fun z => absurd (e.symm.trans z) Bool.noConfusion⟩
theorem okN_moment_at {P : Program} {w : World} {K : PySem.W.Frag} {mg : Str → Option Value} {base : Heap} (T : Env K mg) : FcN P w K mg base 5 (He.ga K "moment_at") [] (fun vs H Q E => vs.length = 3 + ([] : List Str).length ∧ sp_moment_at K  (pick [.inl 0, .inl 1, .inl 2] vs [.int (0), .int (0), .int (0)]) H Q E) := by
  obtain ⟨fd, D, F⟩ := fb_moment_at T
  exact FbN.shape D F 3 [] (fun us its => pick [.inl 0, .inl 1, .inl 2] us its) (by decide) (fun r1 r2 => pick_vals _ r1 r2) (fun T kV doc pm an cdv ct us ws its h1 h2 h3 => match us, ws, its, h1, h2, h3 with | [_, _, _], [], [_, _, _], _, _, _ => ⟨_, rfl, rfl⟩)
end
section
def clockV (m : Int) : List V := [.int (m / 1440), .int (m % 1440 / 60), .int (m % 60)]
def sp_clock_of (K : PySem.W.Frag) : Sp := fun vs H Q E => ∃ x, vs = [x] ∧ Cl K H x ∧ (∀ m : Int, x = .int m → 0 ≤ m → ∀ p, H p = none → Q (.ref p) (upd H p (.tup (clockV m)))) ∧ (isM x = false → E (.ref (He.ga K "NoTime")) none H)
theorem fb_clock_of {P : Program} {w : World} {K : PySem.W.Frag} {mg : Str → Option Value} {base : Heap} (T : Env K mg) : ∃ fd, FunD K "clock_of" "clock_of" (defArgs s_clock_of) (defBody s_clock_of) (defScope s_clock_of) [] [] (He.ga K "clock_of") fd ∧ Fb P w K mg base 4 (He.ga K "clock_of") fd ["moment"] (sp_clock_of K) := by
  obtain ⟨fd, F⟩ := T.f_clock_of
  refine ⟨fd, F, fb_of F sc_clock_of (fun vs H Q E h => ?_) (fun cdv A outer s H vs Q E hr h => ?_)⟩
  · obtain ⟨x, rfl, _⟩ := h
    rfl
  · obtain ⟨x, rfl, cl, q, qe⟩ := h
    refine ⟨_, (pss_cons (ps_expr (c_call (ok_want_moment T) (hr.mono (by decide)) T.g_want_moment T.k_want_moment (takes_of rfl rfl rfl rfl) (pa_cons (pv 0) pa_nil)))
      (pss_one (ps_ret (pe_tup (pa_cons (pe_op op_fdiv (pv 0) (pe_k T.v_DAY)) (pa_cons (pe_op op_fdiv (pe_op op_mod (pv 0) (pe_k T.v_DAY)) (pe_k T.v_HOUR)) (pa_cons (pe_op op_mod (pv 0) (pe_k T.v_HOUR)) pa_nil))))))), ?_⟩
    refine ⟨x, rfl, x, rfl, cl, fun e => ?_, qe⟩
    obtain ⟨m, rfl, hm⟩ := isM_w e
    refine ⟨_, rfl, _, _, rfl, rfl, ⟨by decide, by decide⟩, _, rfl, _, _, rfl, rfl, (by show (0 : Int) < 1440; decide), _, _, rfl, rfl, ⟨by decide, by decide⟩, _, rfl, _, _, rfl, rfl, (by show (0 : Int) < 60; decide), by show 3 ≤ sizeLine; decide, fun p hp => ?_⟩
    exact q m rfl hm p hp
theorem ok_clock_of {P : Program} {w : World} {K : PySem.W.Frag} {mg : Str → Option Value} {base : Heap} (T : Env K mg) : Fc P w K mg base 4 (He.ga K "clock_of") [] (sp_clock_of K ) := by
  obtain ⟨fd, D, F⟩ := fb_clock_of T
  exact F.all (D.bindsN fun _ _ _ _ _ _ us hl => match us, hl with | [_], _ => rfl)
end
section
def sp_show_moment (K : PySem.W.Frag) : Sp := fun vs H Q E => ∃ x, vs = [x] ∧ Cl K H x ∧ (∀ m : Nat, x = .int m → m < 10 ^ 255 ∧ ∀ H', Ex H H' → Q (.str (SX.S (Mo.shw m))) H') ∧ (isM x = false → E (.ref (He.ga K "NoTime")) none H)
theorem str_two : ∀ m : Nat, m < 60 → Txt.zfill (Str.ofString (toString ((m : Nat) : Int))) 2 = SX.S (Mo.two m) := by
  intro m h
  have all : ∀ m, m < 60 → TL.tl (Txt.zfill (Str.ofString (toString ((m : Nat) : Int))) 2) = Mo.two m := by decide +kernel
  exact TL.ext_tl (all m h)
theorem log_small {n : Nat} (h : n < 10 ^ 255) : ((n : Nat) : Int).natAbs.log2 < 1920 := PySem.Flt.log2_lt_of (by decide) (Nat.lt_trans (show ((n : Nat) : Int).natAbs < 10 ^ 255 by rw [Int.natAbs_natCast]; exact h) (by decide +kernel))
theorem fb_show_moment {P : Program} {w : World} {K : PySem.W.Frag} {mg : Str → Option Value} {base : Heap} (T : Env K mg) : ∃ fd, FunD K "show_moment" "show_moment" (defArgs s_show_moment) (defBody s_show_moment) (defScope s_show_moment) [] [] (He.ga K "show_moment") fd ∧ Fb P w K mg base 5 (He.ga K "show_moment") fd ["moment"] (sp_show_moment K) := by
  obtain ⟨fd, F⟩ := T.f_show_moment
  refine ⟨fd, F, fb_of F sc_show_moment (fun vs H Q E h => ?_) (fun cdv A outer s H vs Q E hr h => ?_)⟩
  · obtain ⟨x, rfl, _⟩ := h
    rfl
  · obtain ⟨x, rfl, cl, q, qe⟩ := h
    refine ⟨_, (pss_cons (ps_asg (c_call (ok_clock_of T) (hr.mono (by decide)) T.g_clock_of T.k_clock_of (takes_of rfl rfl rfl rfl) (pa_cons (pv 0) pa_nil)) (pg_tup (by rfl) (pgs_cons (pg_name (i := 1) sc_show_moment.nd rfl (Or.inl rfl)) (pgs_cons (pg_name (i := 2) sc_show_moment.nd rfl (Or.inl rfl)) (pgs_cons (pg_name (i := 3) sc_show_moment.nd rfl (Or.inl rfl)) pgs_nil)))))
      (pss_cons (ps_set (i := 4) sc_show_moment.nd rfl (Or.inl rfl) (pe_op op_add_str (pe_op op_add_str (pe_callTy call_str_int (by rfl) T.n_str (by decide +kernel) (pa_cons (pv 2) pa_nil)) (pe_k T.v_COLON)) (pe_bm PySem.F.plainAttrs_str PySem.F.slot_str_zfill PySem.F.type_str_zfill mt_zfill (pe_callTy call_str_int (by rfl) T.n_str (by decide +kernel) (pa_cons (pv 3) pa_nil)) (pa_cons pe_int pa_nil))))
      (pss_cons (ps_if (pt_cmpR op_eq (pv 1) pe_int (nomark _))
      (pss_one (ps_ret (pv 4)))
      pss_nil)
      (pss_one (ps_ret (pe_op op_add_str (pe_op op_add_str (pe_callTy call_str_int (by rfl) T.n_str (by decide +kernel) (pa_cons (pv 1) pa_nil)) (pe_k T.v_BLANK)) (pv 4))))))), ?_⟩
    refine ⟨x, rfl, x, rfl, cl, fun m e m0 t nt => ?_, qe⟩
    obtain ⟨m, rfl⟩ := Int.eq_ofNat_of_zero_le m0
    subst e
    obtain ⟨mb, q⟩ := q m rfl
    have X1 : Ex H (upd H t (.tup (clockV m))) := ex_new nt
    refine ⟨t, _, rfl, sq_tup upd_same, rfl, _, _, rfl, _, _, rfl, _, _, rfl, rfl, ?_⟩
    have e1 : ((m : Nat) : Int) / 1440 = ((m / 1440 : Nat) : Int) := by omega
    have e2 : ((m : Nat) : Int) % 1440 / 60 = ((m % 1440 / 60 : Nat) : Int) := by omega
    have e3 : ((m : Nat) : Int) % 60 = ((m % 60 : Nat) : Int) := by omega
    rw [e1, e2, e3]
    have l1 : (Mo.shw m).length ≤ 263 := Mo.shw_len (by decide) mb
    have l2 : (TL.numL (m % 1440 / 60)).length ≤ 2 := TL.numL_len (by decide) (by omega)
    have l3 : (TL.numL (m / 1440)).length ≤ 255 := TL.numL_len (by decide) (Nat.lt_of_le_of_lt (Nat.div_le_self _ _) mb)
    refine ⟨_, rfl, _, rfl, log_small (Nat.lt_of_le_of_lt (by omega) mb), ?_⟩
    rw [SX.num_S]
    have c1 : (SX.S (TL.numL (m % 1440 / 60)) ++ Str.ofString ":").length ≤ 1000 := by
      rw [TL.len_tl, TL.tl_append]
      simp only [List.length_append]
      have : (TL.tl (Str.ofString ":")).length = 1 := rfl
      show (TL.numL (m % 1440 / 60)).length + _ ≤ 1000
      omega
    refine ⟨_, _, rfl, rfl, Nat.le_of_lt (small_len (by have := SX.S_len (TL.numL (m % 1440 / 60)); have : (Str.ofString ":").length = 1 := rfl; omega)), ?_⟩
    refine ⟨_, rfl, _, rfl, log_small (Nat.lt_of_le_of_lt (Nat.mod_le _ _) mb), rfl, _, _, rfl, rfl, rfl, ?_⟩
    rw [show Txt.zfill (Str.ofString (toString ((m % 60 : Nat) : Int))) 2 = SX.S (Mo.two (m % 60)) from str_two _ (by omega)]
    refine ⟨_, _, rfl, rfl, Nat.le_of_lt (small_len (by have : (SX.S (Mo.two (m % 60))).length = 2 := rfl; omega)), ?_⟩
    have e4 : SX.S (TL.numL (m % 1440 / 60)) ++ Str.ofString ":" ++ SX.S (Mo.two (m % 60)) = SX.S (Mo.clk m) := by
      rw [show Str.ofString ":" = SX.S [58] from rfl, SX.S_cat, SX.S_cat]
      unfold Mo.clk
      simp
    rw [e4]
    have l4 : (Mo.clk m).length ≤ 5 := by
      unfold Mo.clk Mo.two
      simp
      omega
    refine ⟨_, rfl, rfl, _, rfl, ite2 (fun c => ?_) (fun c => ?_)⟩
    · have c2 : m / 1440 = 0 := by
        have := of_decide_eq_true c
        injection this with this
        omega
      refine ⟨_, rfl, ?_⟩
      have e5 : Mo.shw m = Mo.clk m := by unfold Mo.shw; rw [if_pos c2]
      rw [← e5]
      exact q _ X1
    · have c2 : ¬ m / 1440 = 0 := fun z => c (decide_eq_true (by rw [z]; rfl))
      refine ⟨_, rfl, _, rfl, log_small (Nat.lt_of_le_of_lt (Nat.div_le_self _ _) mb), ?_⟩
      rw [SX.num_S]
      refine ⟨_, _, rfl, rfl, Nat.le_of_lt (small_len (by have := SX.S_len (TL.numL (m / 1440)); have : (Str.ofString " ").length = 1 := rfl; omega)), ?_⟩
      rw [show Str.ofString " " = SX.S [32] from rfl, SX.S_cat]
      refine ⟨_, rfl, _, _, rfl, rfl, Nat.le_of_lt (small_len (by rw [SX.S_len, SX.S_len]; simp; omega)), ?_⟩
      rw [SX.S_cat]
      have e5 : Mo.shw m = TL.numL (m / 1440) ++ [32] ++ Mo.clk m := by unfold Mo.shw; rw [if_neg c2]; simp
      rw [← e5]
      exact q _ X1
theorem sm_good {K : PySem.W.Frag} {H : Hp} {Q : VK} {E : XK} {m : Nat} (mb : m < 10 ^ 255) (q : ∀ H', Ex H H' → Q (.str (SX.S (Mo.shw m))) H') : sp_show_moment K [.int m] H Q E :=
  ⟨_, rfl, cl_int _, fun k e => by
    have ek : k = m := by injection e with e; omega
    subst ek
    exact ⟨mb, q⟩, fun e => absurd e (by rw [show isM (.int m) = true from decide_eq_true (Int.natCast_nonneg m)]; decide)⟩
theorem ok_show_moment {P : Program} {w : World} {K : PySem.W.Frag} {mg : Str → Option Value} {base : Heap} (T : Env K mg) : Fc P w K mg base 5 (He.ga K "show_moment") [] (sp_show_moment K ) := by
  obtain ⟨fd, D, F⟩ := fb_show_moment T
  exact F.all (D.bindsN fun _ _ _ _ _ _ us hl => match us, hl with | [_], _ => rfl)
end
section
theorem fig_in (c : Nat) : decide (c ∈ (Str.ofString "0123456789").cps.toList) = Mo.isFig c := by
  have e : (Str.ofString "0123456789").cps.toList = [48, 49, 50, 51, 52, 53, 54, 55, 56, 57] := rfl
  rw [e]
  unfold Mo.isFig
  rw [← Bool.decide_and]
  apply decide_eq_decide.mpr
  simp only [List.mem_cons, List.not_mem_nil, or_false]
  omega
def sp_are_figures (K : PySem.W.Frag) : Sp := fun vs H Q _ => ∃ l : List Nat, vs = [.str (SX.S l)] ∧ l.length ≤ 100000 ∧ ∀ H', Ex H H' → Q (.bl (Mo.figs l)) H'
theorem fb_are_figures {P : Program} {w : World} {K : PySem.W.Frag} {mg : Str → Option Value} {base : Heap} (T : Env K mg) : ∃ fd, FunD K "are_figures" "are_figures" (defArgs s_are_figures) (defBody s_are_figures) (defScope s_are_figures) [] [] (He.ga K "are_figures") fd ∧ Fb P w K mg base 1 (He.ga K "are_figures") fd ["word"] (sp_are_figures K) := by
  obtain ⟨fd, F⟩ := T.f_are_figures
  refine ⟨fd, F, fb_of F sc_are_figures (fun vs H Q E h => ?_) (fun cdv A outer s H vs Q E hr h => ?_)⟩
  · obtain ⟨l, rfl, _⟩ := h
    rfl
  · obtain ⟨l, rfl, hl, q⟩ := h
    refine ⟨_, (pss_one (ps_ret (pe_and (pe_cmpR op_ne (pv 0) pe_str (nomark _)) (pe_one (pe_callB (cr_all rfl) (by rfl) T.n_all (by decide +kernel) (pa_cons (pe_lc (own := [("sign", 1)]) (by rfl) sc_are_figures.nd (pi_str (pv 0)) (blkOk_by (own := [("sign", 1)]) (N := ["word", "sign"]) (sc := defScope s_are_figures) (by decide +kernel)) (fun _ _ _ _ _ => (pg_name (i := 1) sc_are_figures.nd rfl (Or.inl rfl))) (fun _ _ _ _ _ => pts_nil) (fun _ _ _ _ _ => (pe_cmpR op_in_sign (pv 1) (pe_k T.v_FIGURES_clock) (by rfl)))) pa_nil)))))), ?_⟩
    refine ⟨_, rfl, rfl, _, rfl, ?_⟩
    by_cases h0 : l = []
    · subst h0
      rw [decide_eq_true (show V.str (SX.S []) = V.str (Str.ofString "") from rfl)]
      exact q H (.refl H)
    · rw [decide_eq_false (show ¬ V.str (SX.S l) = V.str (Str.ofString "") from fun z => h0 (by injection z with z; exact SX.S_inj z))]
      refine iteT ?_
      refine ⟨_, rfl, _, rfl, fun D nD => lc_fm L2.walk_str (fun i => some (.bl (Mo.isFig (l.getD i 0)))) (fun H' => Ex H H') (fun H' z e => ex_mut e nD) (.refl H) (by show l.toArray.size ≤ 100000; simpa using hl) (fun _ _ => trivial) (fun i x H1 H2 acc N hi e hD la y k => ?_) fun H1 e1 d1 => ?_⟩
      · obtain ⟨rfl, c, hc, rfl⟩ := y
        refine ⟨rfl, _, rfl, c, _, rfl, rfl, acc, hD, la, ?_⟩
        rw [fig_in]
        have e2 : l.getD i 0 = c := by
          have hc2 : l[i]? = some c := by simpa using hc
          rw [List.getD_eq_getElem?_getD, hc2]
          rfl
        have k2 := k H2 e hD
        rw [e2] at k2
        exact k2
      · refine ⟨D, l.map Mo.isFig, rfl, sq_lst ?_, ?_⟩
        · rw [d1]
          have e3 := range_map_get l 0 (fun c => V.bl (Mo.isFig c))
          have e4 : l.toArray.size = l.length := by simp
          show some (HO.lst (List.filterMap _ (List.range l.toArray.size))) = _
          rw [e4, e3, List.map_map]
          rfl
        · have e5 : (l.map Mo.isFig).all id = Mo.figs l := by
            unfold Mo.figs
            rw [List.all_map]
            cases l with
            | nil => exact absurd rfl h0
            | cons a r => rfl
          rw [e5]
          exact q H1 e1
theorem ok_are_figures {P : Program} {w : World} {K : PySem.W.Frag} {mg : Str → Option Value} {base : Heap} (T : Env K mg) : Fc P w K mg base 1 (He.ga K "are_figures") [] (sp_are_figures K ) := by
  obtain ⟨fd, D, F⟩ := fb_are_figures T
  exact F.all (D.bindsN fun _ _ _ _ _ _ us hl => match us, hl with | [_], _ => rfl)
end
section
def sp_number_of (K : PySem.W.Frag) : Sp := fun vs H Q E => ∃ l : List Nat, vs = [.str (SX.S l)] ∧ l.length ≤ 600 ∧ (∀ n, Mo.num? l = some n → ∀ H', Ex H H' → Q (.int n) H') ∧ (Mo.num? l = none → ∀ H', Ex H H' → E (.ref (He.ga K "NoTime")) none H')
theorem fb_number_of {P : Program} {w : World} {K : PySem.W.Frag} {mg : Str → Option Value} {base : Heap} (T : Env K mg) : ∃ fd, FunD K "number_of" "number_of" (defArgs s_number_of) (defBody s_number_of) (defScope s_number_of) [] [] (He.ga K "number_of") fd ∧ FbN P w K mg base 2 (He.ga K "number_of") fd ["word"] (sp_number_of K) := by
  obtain ⟨fd, F⟩ := T.f_number_of
  refine ⟨fd, F, fbN_of F sc_number_of (fun vs H Q E h => ?_) (fun cdv A outer s H vs Q E hr h => ?_)⟩
  · obtain ⟨l, rfl, _⟩ := h
    rfl
  · obtain ⟨l, rfl, hl, q, qe⟩ := h
    refine ⟨_, (pss_cons (ps_if (PW.pt (pw_or (pt_not (pt_val (c_call (ok_are_figures T) (hr.mono (by decide)) T.g_are_figures T.k_are_figures takes0 (pa_cons (pv 0) pa_nil)))) (pw_or1 (PW.pt (pw_and (pt_cmpR op_gt (pe_callB call_len (by rfl) T.n_len (by decide +kernel) (pa_cons (pv 0) pa_nil)) pe_int (nomark _)) (pw_and1 (pt_cmpR op_eq (pe_ix ix_str (pv 0) pe_int (fun _ _ => rfl)) (pe_ix ix_str (pe_k T.v_FIGURES_clock) pe_int (fun _ _ => rfl)) (nomark _))))))))
      (pss_one (L2N.ps_raise rfl (L2N.takes_of rfl rfl rfl rfl) (L2N.pmk_own PySem.F.excBase_ValueError T.x_NoTime.x T.g_NoTime T.x_NoTime.kp (raises_own T.x_NoTime.sub T.x_NoTime.ty) rfl)))
      pss_nil)
      (pss_one (ps_ret (pe_callTy call_int_str (by rfl) T.n_int (by decide +kernel) (pa_cons (pv 0) pa_nil))))), ?_⟩
    refine ⟨_, rfl, l, rfl, by omega, fun H1 X1 => ⟨_, rfl, ?_⟩⟩
    cases hf : Mo.figs l with
    | false => exact qe (by unfold Mo.num?; rw [hf]; rfl) H1 X1
    | true =>
      refine iteF ?_
      refine ⟨_, rfl, _, l.length, rfl, ⟨Nat.le_of_lt (small_len (by rw [SX.S_len]; omega)), (SX.S_len l).symm⟩, _, _, rfl, rfl, _, rfl, ?_⟩
      obtain ⟨h0, hd⟩ := Mo.figs_iff.mp hf
      have fin : (decide (1 < l.length) && l.head? == some 48) = false → (tRet (tCB (fun xs H Q => ∃ (a : Str) (n : Int), xs = [V.str a] ∧ intText? a = some n ∧ a.length ≤ 640 ∧ Q (.int n) H) (tCons (tVar 0) tNil))) { nx := fun _ H' => Q .non H', rt := Q } (start ["word"] [.str (SX.S l)]) H1 := fun hz => by
        refine ⟨_, rfl, _, _, rfl, SX.int_S (Mo.all_fig hd) h0 (by omega), by rw [SX.S_len]; omega, ?_⟩
        exact q (Mo.val l) (by unfold Mo.num?; rw [hf, hz]; rfl) H1 X1
      refine ite2 (fun c => ?_) (fun c => ?_)
      · have c2 : 1 < l.length := by have := of_decide_eq_true c; omega
        cases l with
        | nil => exact absurd rfl h0
        | cons a r =>
          refine ⟨_, rfl, _, _, a, rfl, rfl, Nat.le_of_lt (small_len (by rw [SX.S_len]; omega)), (show atI (a :: r) ((0 : Nat) : Int) = some a from atI_nat rfl), ?_⟩
          refine ⟨_, _, 48, rfl, rfl, by decide, rfl, rfl, _, rfl, ite2 (fun d => ?_) (fun d => ?_)⟩
          · have d2 : a = 48 := by
              have := of_decide_eq_true d
              injection this with this
              have z : [a] = [48] := SX.S_inj this
              injection z
            exact qe (by unfold Mo.num?; rw [hf, d2, decide_eq_true (by rw [d2] at c2; exact c2)]; rfl) H1 X1
          · have d2 : a ≠ 48 := fun z => d (decide_eq_true (by rw [z]))
            exact fin (by rw [decide_eq_true c2]; simpa using d2)
      · have c2 : ¬ 1 < l.length := fun z => c (decide_eq_true (by omega))
        exact fin (by rw [decide_eq_false c2]; rfl)
theorem okN_number_of {P : Program} {w : World} {K : PySem.W.Frag} {mg : Str → Option Value} {base : Heap} (T : Env K mg) : FcN P w K mg base 2 (He.ga K "number_of") [] (sp_number_of K ) := by
  obtain ⟨fd, D, F⟩ := fb_number_of T
  exact F.all (D.bindsN fun _ _ _ _ _ _ us hl => match us, hl with | [_], _ => rfl)
end
section
def sp_day_of (K : PySem.W.Frag) : Sp := fun vs H Q E => ∃ l : List Nat, vs = [.str (SX.S l)] ∧ l.length ≤ 600 ∧ (∀ n, Mo.dayOf l = some n → ∀ H', Ex H H' → Q (.int n) H') ∧ (Mo.dayOf l = none → ∀ H', Ex H H' → E (.ref (He.ga K "NoTime")) none H')
theorem fb_day_of {P : Program} {w : World} {K : PySem.W.Frag} {mg : Str → Option Value} {base : Heap} (T : Env K mg) : ∃ fd, FunD K "day_of" "day_of" (defArgs s_day_of) (defBody s_day_of) (defScope s_day_of) [] [] (He.ga K "day_of") fd ∧ FbN P w K mg base 3 (He.ga K "day_of") fd ["word"] (sp_day_of K) := by
  obtain ⟨fd, F⟩ := T.f_day_of
  refine ⟨fd, F, fbN_of F sc_day_of (fun vs H Q E h => ?_) (fun cdv A outer s H vs Q E hr h => ?_)⟩
  · obtain ⟨l, rfl, _⟩ := h
    rfl
  · obtain ⟨l, rfl, hl, q, qe⟩ := h
    refine ⟨_, (pss_cons (ps_set (i := 1) sc_day_of.nd rfl (Or.inl rfl) (c_callN (okN_number_of T) (hr.mono (by decide)) T.g_number_of T.k_number_of (L2N.takes_of rfl rfl rfl rfl) (pa_cons (pv 0) pa_nil)))
      (pss_cons (ps_if (pt_cmpR op_eq (pv 1) pe_int (nomark _))
      (pss_one (L2N.ps_raise rfl (L2N.takes_of rfl rfl rfl rfl) (L2N.pmk_own PySem.F.excBase_ValueError T.x_NoTime.x T.g_NoTime T.x_NoTime.kp (raises_own T.x_NoTime.sub T.x_NoTime.ty) rfl)))
      pss_nil)
      (pss_one (ps_ret (pv 1))))), ?_⟩
    refine ⟨_, rfl, l, rfl, hl, fun n hn H1 X1 => ?_, fun hn H1 X1 => qe (by unfold Mo.dayOf; rw [hn]) H1 X1⟩
    refine ⟨_, rfl, rfl, _, rfl, ite2 (fun c => ?_) (fun c => ?_)⟩
    · have c2 : n = 0 := by have := of_decide_eq_true c; injection this with this; omega
      exact qe (by unfold Mo.dayOf; rw [hn, c2]; rfl) H1 X1
    · refine ⟨_, rfl, q n ?_ H1 X1⟩
      unfold Mo.dayOf
      rw [hn]
      cases n with
      | zero => exact absurd (decide_eq_true rfl) c
      | succ k => rfl
theorem okN_day_of {P : Program} {w : World} {K : PySem.W.Frag} {mg : Str → Option Value} {base : Heap} (T : Env K mg) : FcN P w K mg base 3 (He.ga K "day_of") [] (sp_day_of K ) := by
  obtain ⟨fd, D, F⟩ := fb_day_of T
  exact F.all (D.bindsN fun _ _ _ _ _ _ us hl => match us, hl with | [_], _ => rfl)
end
section
def sp_read_moment (K : PySem.W.Frag) : Sp := fun vs H Q E => ∃ x, vs = [x] ∧ ((∃ l : List Nat, x = .str (SX.S l) ∧ l.length ≤ 600 ∧ (∀ n, Mo.momOf l = some n → ∀ H', Ex H H' → Q (.int n) H') ∧ (Mo.momOf l = none → ∀ H', Ex H H' → E (.ref (He.ga K "NoTime")) none H')) ∨
  (∃ t, TyX K H x t ∧ PySem.W.kitOne K t (.type "str") = some false ∧ E (.ref (He.ga K "NoTime")) none H))
theorem fb_read_moment {P : Program} {w : World} {K : PySem.W.Frag} {mg : Str → Option Value} {base : Heap} (T : Env K mg) : ∃ fd, FunD K "read_moment" "read_moment" (defArgs s_read_moment) (defBody s_read_moment) (defScope s_read_moment) [] [] (He.ga K "read_moment") fd ∧ FbN P w K mg base 6 (He.ga K "read_moment") fd ["text"] (sp_read_moment K) := by
  obtain ⟨fd, F⟩ := T.f_read_moment
  refine ⟨fd, F, fbN_of F sc_read_moment (fun vs H Q E h => ?_) (fun cdv A outer s H vs Q E hr h => ?_)⟩
  · obtain ⟨x, rfl, _⟩ := h
    rfl
  · obtain ⟨x, rfl, h⟩ := h
    refine ⟨_, (pss_cons (ps_if (pt_not (pt_val (pe_callB call_isi (by rfl) T.n_isinstance (by decide +kernel) (pa_cons (pv 0) (pa_cons (pe_bltn (v := .ty "str") (by rfl) T.n_str (by decide +kernel) rfl) pa_nil)))))
      (pss_one (L2N.ps_raise rfl (L2N.takes_of rfl rfl rfl rfl) (L2N.pmk_own PySem.F.excBase_ValueError T.x_NoTime.x T.g_NoTime T.x_NoTime.kp (raises_own T.x_NoTime.sub T.x_NoTime.ty) rfl)))
      pss_nil)
      (pss_cons (ps_asg (pe_rpartition (pv 0) (pe_k T.v_BLANK)) (pg_tup (by rfl) (pgs_cons (pg_name (i := 1) sc_read_moment.nd rfl (Or.inl rfl)) (pgs_cons (pg_name (i := 2) sc_read_moment.nd rfl (Or.inl rfl)) (pgs_cons (pg_name (i := 3) sc_read_moment.nd rfl (Or.inl rfl)) pgs_nil)))))
      (pss_cons (ps_set (i := 4) sc_read_moment.nd rfl (Or.inl rfl) pe_int)
      (Evl.pss_cut (ps_if (pt_cmpR op_ne (pv 2) pe_str (nomark _))
      (pss_one (ps_set (i := 4) sc_read_moment.nd rfl (Or.inl rfl) (c_callN (okN_day_of T) (hr.mono (by decide)) T.g_day_of T.k_day_of (L2N.takes_of rfl rfl rfl rfl) (pa_cons (pv 1) pa_nil))))
      pss_nil)
      (pss_cons (ps_asg (pe_partition (pv 3) (pe_k T.v_COLON)) (pg_tup (by rfl) (pgs_cons (pg_name (i := 5) sc_read_moment.nd rfl (Or.inl rfl)) (pgs_cons (pg_name (i := 6) sc_read_moment.nd rfl (Or.inl rfl)) (pgs_cons (pg_name (i := 7) sc_read_moment.nd rfl (Or.inl rfl)) pgs_nil)))))
      (pss_cons (ps_if (PW.pt (pw_or (pt_cmpR op_ne (pe_callB call_len (by rfl) T.n_len (by decide +kernel) (pa_cons (pv 7) pa_nil)) pe_int (nomark _)) (pw_or1 (pt_not (pt_val (c_call (ok_are_figures T) (hr.mono (by decide)) T.g_are_figures T.k_are_figures takes0 (pa_cons (pv 7) pa_nil)))))))
      (pss_one (L2N.ps_raise rfl (L2N.takes_of rfl rfl rfl rfl) (L2N.pmk_own PySem.F.excBase_ValueError T.x_NoTime.x T.g_NoTime T.x_NoTime.kp (raises_own T.x_NoTime.sub T.x_NoTime.ty) rfl)))
      pss_nil)
      (pss_one (ps_ret (c_callN (okN_moment_at T) (hr.mono (by decide)) T.g_moment_at T.k_moment_at (L2N.takes_of rfl rfl rfl rfl) (pa_cons (pv 4) (pa_cons (c_callN (okN_number_of T) (hr.mono (by decide)) T.g_number_of T.k_number_of (L2N.takes_of rfl rfl rfl rfl) (pa_cons (pv 5) pa_nil)) (pa_cons (pe_callTy call_int_str (by rfl) T.n_int (by decide +kernel) (pa_cons (pv 7) pa_nil)) pa_nil)))))))))))), ?_⟩
    rcases h with ⟨l, rfl, hl, q, qe⟩ | ⟨t, ty, kt, qe⟩
    · have ls : (SX.S l).length ≤ sizeLine := Nat.le_of_lt (small_len (by rw [SX.S_len]; omega))
      refine ⟨_, rfl, .str (SX.S l), .ty "str", _, _, true, rfl, .ty "str", .base (.str _), kit_ty (by decide +kernel), true, rfl, iteF ?_⟩
      refine ⟨_, rfl, ⟨_, rfl⟩, _, _, rfl, rfl, rfl, ls, fun p np => ?_⟩
      rw [show Str.ofString " " = SX.S [32] from rfl, Mo.rpartition_S]
      refine ⟨p, _, rfl, sq_tup upd_same, rfl, _, _, rfl, _, _, rfl, _, _, rfl, rfl, ?_⟩
      have X1 := fun o => ex_new (o := o) np
      refine ⟨fun σ' H' => Ex H H' ∧ ∃ (v1 v2 : Option V) (d : Nat) (t : List Nat), σ' = [some (.str (SX.S l)), v1, v2, some (.str (SX.S t)), some (.int d), none, none, none] ∧ t.length ≤ 600 ∧ Mo.momOf l = (Mo.clkOf t).map fun m => d * 1440 + m, ?_, ?_⟩
      · cases hc : Mo.rcut 32 l with
        | none =>
          refine ⟨_, rfl, rfl, _, rfl, iteF ?_⟩
          refine ⟨X1 _, _, _, 0, l, rfl, hl, ?_⟩
          unfold Mo.momOf
          rw [hc]
          simp
        | some z =>
          obtain ⟨h, t⟩ := z
          have el := (Mo.rcut_is hc).1
          have ll : h.length + t.length < l.length := by rw [el]; simp
          refine ⟨_, rfl, rfl, _, rfl, iteT ?_⟩
          refine ⟨_, rfl, h, rfl, by omega, fun n hn H1 e1 => ?_, fun hn H1 e1 => qe ?_ _ ((X1 _).trans e1)⟩
          · refine ⟨(X1 _).trans e1, _, _, n, t, rfl, by omega, ?_⟩
            unfold Mo.momOf
            rw [hc]
            simp only [hn]
          · unfold Mo.momOf
            rw [hc]
            simp only [hn]
      rintro σ' H2 ⟨X2, v1, v2, d, t, rfl, ht, em⟩
      have ts : (SX.S t).length ≤ sizeLine := Nat.le_of_lt (small_len (by rw [SX.S_len]; omega))
      refine ⟨_, rfl, ⟨_, rfl⟩, _, _, rfl, rfl, rfl, ts, fun p2 np2 => ?_⟩
      have X3 := fun o => X2.trans (ex_new (o := o) np2)
      rw [show Str.ofString ":" = SX.S [58] from rfl]
      cases hp : TL.par [58] [] t with
      | none =>
        rw [SX.partition_none (by decide) hp]
        refine ⟨p2, _, rfl, sq_tup upd_same, rfl, _, _, rfl, _, _, rfl, _, _, rfl, rfl, ?_⟩
        refine ⟨_, rfl, _, 0, rfl, ⟨Nat.zero_le _, rfl⟩, rfl, _, rfl, iteT ?_⟩
        refine qe ?_ _ (X3 _)
        rw [em]
        unfold Mo.clkOf
        rw [hp]
        rfl
      | some z =>
        obtain ⟨h, m⟩ := z
        rw [SX.partition_some (by decide) hp]
        refine ⟨p2, _, rfl, sq_tup upd_same, rfl, _, _, rfl, _, _, rfl, _, _, rfl, rfl, ?_⟩
        obtain ⟨h', eh, et, _⟩ := Mo.par_is hp
        have eh2 : h = h' := by rw [eh]; rfl
        subst eh2
        have tl : h.length + m.length < t.length := by rw [et]; simp
        have ms : (SX.S m).length ≤ sizeLine := Nat.le_of_lt (small_len (by rw [SX.S_len]; omega))
        refine ⟨_, rfl, _, m.length, rfl, ⟨ms, (SX.S_len m).symm⟩, rfl, _, rfl, ite2 (fun c => ?_) (fun c => ?_)⟩
        · refine qe ?_ _ (X3 _)
          have c2 : ¬ m.length = 2 := fun z => by
            rw [z] at c
            exact absurd c (by decide)
          rw [em]
          unfold Mo.clkOf
          rw [hp]
          show Option.map _ (if (decide (m.length = 2) && Mo.figs m) = true then _ else none) = none
          rw [decide_eq_false c2]
          rfl
        · have c2 : m.length = 2 := by
            by_cases z : m.length = 2
            · exact z
            · refine absurd ?_ c
              rw [decide_eq_false (show ¬ V.int ((m.length : Nat) : Int) = V.int 2 from fun y => z (by injection y with y; omega))]
              rfl
          refine ⟨_, rfl, m, rfl, by omega, fun H3 e3 => ⟨_, rfl, ?_⟩⟩
          have X4 : Ex H H3 := (X3 _).trans e3
          cases hf : Mo.figs m with
          | false =>
            refine qe ?_ _ X4
            rw [em]
            unfold Mo.clkOf
            rw [hp]
            show Option.map _ (if (decide (m.length = 2) && Mo.figs m) = true then _ else none) = none
            rw [hf, Bool.and_false]
            rfl
          | true =>
            refine iteF ?_
            obtain ⟨m0, md⟩ := Mo.figs_iff.mp hf
            have ec : ∀ k, Mo.num? h = some k → Mo.clkOf t = if k < 24 ∧ Mo.val m < 60 then some (k * 60 + Mo.val m) else none := fun k hk => by
              unfold Mo.clkOf
              rw [hp]
              show (if (decide (m.length = 2) && Mo.figs m) = true then (match Mo.num? h with | some k => if k < 24 ∧ Mo.val m < 60 then some (k * 60 + Mo.val m) else none | none => none) else none) = _
              rw [hf, decide_eq_true c2, hk]
              rfl
            refine ⟨_, rfl, _, rfl, h, rfl, by omega, fun k hk H4 e4 => ?_, fun hk H4 e4 => ?_⟩
            · refine ⟨_, rfl, _, _, rfl, SX.int_S (Mo.all_fig md) m0 (by omega), by rw [SX.S_len]; omega, rfl, ?_⟩
              have ek := ec k hk
              by_cases hg : k < 24 ∧ Mo.val m < 60
              · rw [if_pos hg] at ek
                refine ma_good (by omega) (by omega) (by omega) (by exact Int.natCast_nonneg _) (by exact Int.ofNat_lt.mpr hg.2) ?_
                have z := q (d * 1440 + (k * 60 + Mo.val m)) (by rw [em, ek]; rfl) H4 (X4.trans e4)
                have ez : ((d * 1440 + (k * 60 + Mo.val m) : Nat) : Int) = (d : Int) * 1440 + (k : Int) * 60 + (Mo.val m : Int) := by omega
                rw [ez] at z
                exact z
              · rw [if_neg hg] at ek
                refine ⟨_, _, _, rfl, cl_int _, cl_int _, cl_int _, fun d' h' m' e1 e2 e3 eb => ?_, fun _ => qe (by rw [em, ek]; rfl) H4 (X4.trans e4)⟩
                exfalso
                apply hg
                have eb2 : (decide ((0 : Int) ≤ (d : Int)) && ((decide ((0 : Int) ≤ (k : Int)) && decide ((k : Int) < 24)) && (decide ((0 : Int) ≤ (Mo.val m : Int)) && decide ((Mo.val m : Int) < 60)))) = true := eb
                simp only [Bool.and_eq_true, decide_eq_true_eq] at eb2
                omega
            · refine qe ?_ H4 (X4.trans e4)
              rw [em]
              unfold Mo.clkOf
              rw [hp]
              show Option.map _ (if (decide (m.length = 2) && Mo.figs m) = true then (match Mo.num? h with | some k => if k < 24 ∧ Mo.val m < 60 then some (k * 60 + Mo.val m) else none | none => none) else none) = none
              rw [hk]
              split <;> rfl
    · refine ⟨_, rfl, x, .ty "str", t, _, false, rfl, .ty "str", ty, kt, false, rfl, ?_⟩
      exact qe
theorem okN_read_moment {P : Program} {w : World} {K : PySem.W.Frag} {mg : Str → Option Value} {base : Heap} (T : Env K mg) : FcN P w K mg base 6 (He.ga K "read_moment") [] (sp_read_moment K ) := by
  obtain ⟨fd, D, F⟩ := fb_read_moment T
  exact F.all (D.bindsN fun _ _ _ _ _ _ us hl => match us, hl with | [_], _ => rfl)
end
section
def isN (n : Int) (x : V) : Bool := isW x && (match x with | .int i => decide (n ≤ i) | _ => false)
def sp_is_number (K : PySem.W.Frag) : Sp := fun vs H Q _ => ∃ x n, vs = [x, .int n] ∧ Cl K H x ∧ Q (.bl (isN n x)) H
theorem fb_is_number {P : Program} {w : World} {K : PySem.W.Frag} {mg : Str → Option Value} {base : Heap} (T : Env K mg) : ∃ fd, FunD K "is_number" "is_number" (defArgs s_is_number) (defBody s_is_number) (defScope s_is_number) [] [] (He.ga K "is_number") fd ∧ Fb P w K mg base 1 (He.ga K "is_number") fd ["thing", "least"] (sp_is_number K) := by
  obtain ⟨fd, F⟩ := T.f_is_number
  refine ⟨fd, F, fb_of F sc_is_number (fun vs H Q E h => ?_) (fun cdv A outer s H vs Q E hr h => ?_)⟩
  · obtain ⟨x, n, rfl, _⟩ := h
    rfl
  · obtain ⟨x, n, rfl, ⟨t, b, c, ty, h1, h2, e⟩, q⟩ := h
    refine ⟨_, (pss_one (ps_ret (pe_and (pe_callB call_isi (by rfl) T.n_isinstance (by decide +kernel) (pa_cons (pv 0) (pa_cons (pe_bltn (v := .ty "int") (by rfl) T.n_int (by decide +kernel) rfl) pa_nil))) (pe_and (pe_not (pe_callB call_isi (by rfl) T.n_isinstance (by decide +kernel) (pa_cons (pv 0) (pa_cons (pe_bltn (v := .ty "bool") (by rfl) T.n_bool (by decide +kernel) rfl) pa_nil)))) (pe_one (pe_cmpR op_ge (pv 0) (pv 1) (nomark _))))))), ?_⟩
    refine ⟨x, rfl, x, .ty "int", t, _, b, rfl, .ty "int", ty, h1, b, rfl, ?_⟩
    unfold isN at q
    rw [e] at q
    cases b with
    | false => exact q
    | true =>
      refine ⟨x, rfl, x, .ty "bool", t, _, c, rfl, .ty "bool", ty, h2, c, rfl, ?_⟩
      cases c with
      | true => exact ⟨false, rfl, q⟩
      | false =>
        refine ⟨true, rfl, iteT ?_⟩
        cases x with
        | int i => exact ⟨_, rfl, _, rfl, i, n, rfl, rfl, q⟩
        | _ => cases e
theorem ok_is_number {P : Program} {w : World} {K : PySem.W.Frag} {mg : Str → Option Value} {base : Heap} (T : Env K mg) : Fc P w K mg base 1 (He.ga K "is_number") [] (sp_is_number K ) := by
  obtain ⟨fd, D, F⟩ := fb_is_number T
  exact F.all (D.bindsN fun _ _ _ _ _ _ us hl => match us, hl with | [_, _], _ => rfl)
end
section
theorem ex_made {H : Hp} {x dx : Addr} {o1 o2 : HO} (nx : H x = none) (nd : H dx = none) (ne : dx ≠ x) : Ex H (upd (upd H dx o1) x o2) := fun b o e => by
  rw [upd_ne (ne_of_none e nx), upd_ne (ne_of_none e nd)]
  exact e
end
section
abbrev AtC (K : PySem.W.Frag) : Addr := He.ga K "At"
/-- at a an At of a moment -/
def AtAt (K : PySem.W.Frag) (H : Hp) (a : Addr) (n : Nat) : Prop := ∃ dx, H a = some (.ins (AtC K) dx [("moment", .int (n : Nat))])
theorem AtAt.mono {K : PySem.W.Frag} {H H' : Hp} {a : Addr} {n : Nat} (h : AtAt K H a n) (e : Ex H H') : AtAt K H' a n := let ⟨dx, h⟩ := h; ⟨dx, e _ _ h⟩
def sp_At_init (K : PySem.W.Frag) : Sp := fun vs H Q E => ∃ a dx x, vs = [.ref a, x] ∧ H a = some (.ins (AtC K) dx []) ∧ Cl K H x ∧ (isN 0 x = true → Q .non (upd H a (.ins (AtC K) dx [("moment", x)]))) ∧ (isN 0 x = false → E (.ref (He.ga K "NoPiece")) none H)
theorem fb_At_init {P : Program} {w : World} {K : PySem.W.Frag} {mg : Str → Option Value} {base : Heap} (T : Env K mg) : ∃ fd, FunD K "__init__" "At.__init__" (defArgs s_At_init) (defBody s_At_init) (defScope s_At_init) [] [] (He.ma K (He.ga K "At") "__init__") fd ∧ Fb P w K mg base 2 (He.ma K (He.ga K "At") "__init__") fd ["self", "moment"] (sp_At_init K) := by
  obtain ⟨fd, F⟩ := T.f_At_init
  refine ⟨fd, F, fb_of F sc_At_init (fun vs H Q E h => ?_) (fun cdv A outer s H vs Q E hr h => ?_)⟩
  · obtain ⟨a, dx, x, rfl, _⟩ := h
    rfl
  · obtain ⟨a, dx, x, rfl, ha, cl, q, qe⟩ := h
    refine ⟨_, (pss_cons (ps_if (pt_not (pt_val (c_call (ok_is_number T) (hr.mono (by decide)) T.g_is_number T.k_is_number (takes_of rfl rfl rfl rfl) (pa_cons (pv 1) (pa_cons pe_int pa_nil)))))
      (pss_one (ps_raise rfl (takes_of rfl rfl rfl rfl) (pmk_own PySem.F.excBase_ValueError T.x_NoPiece.x T.g_NoPiece T.x_NoPiece.kp (raises_own T.x_NoPiece.sub T.x_NoPiece.ty) rfl)))
      pss_nil)
      (pss_one (ps_fld (pv 0) (pv 1) rfl))), ?_⟩
    refine ⟨_, rfl, x, 0, rfl, cl, _, rfl, ?_⟩
    cases e : isN 0 x with
    | false => exact qe e
    | true =>
      refine iteF ?_
      refine ⟨_, rfl, _, rfl, a, _, dx, [], rfl, ha, T.c_At, T.a_At_moment, by decide, ?_⟩
      exact q e
theorem isN_nat {n m : Nat} (h : m ≤ n) : isN (m : Int) (.int (n : Nat)) = true := by
  show (true && decide ((m : Int) ≤ (n : Int))) = true
  rw [decide_eq_true (by omega)]
  rfl
theorem at_new {K : PySem.W.Frag} {H : Hp} {x dx : Addr} {n : Nat} {Q : VK} {E : XK} (nx : H x = none) (nd : H dx = none) (ne : dx ≠ x) (q : ∀ H', Ex H H' → AtAt K H' x n → Q .non H') :
    sp_At_init K [.ref x, .int (n : Nat)] (upd (upd H dx (.own x)) x (.ins (AtC K) dx [])) Q E := by
  refine ⟨x, dx, _, rfl, upd_same, cl_int _, fun _ => q _ ?_ ⟨dx, upd_same⟩, fun z => ?_⟩
  · exact ex_mut (ex_made nx nd ne) nx
  · rw [show isN 0 (.int (n : Nat)) = true from isN_nat (m := 0) (Nat.zero_le _)] at z
    cases z
theorem ok_At_init {P : Program} {w : World} {K : PySem.W.Frag} {mg : Str → Option Value} {base : Heap} (T : Env K mg) : Fc P w K mg base 2 (He.ma K (He.ga K "At") "__init__") [] (sp_At_init K ) := by
  obtain ⟨fd, D, F⟩ := fb_At_init T
  exact F.all (D.bindsN fun _ _ _ _ _ _ us hl => match us, hl with | [_, _], _ => rfl)
end
section
def sp_At_ends (K : PySem.W.Frag) : Sp := fun vs H Q _ => ∃ a n, vs = [.ref a] ∧ AtAt K H a n ∧ Q (.int (n : Nat)) H
theorem fb_At_ends {P : Program} {w : World} {K : PySem.W.Frag} {mg : Str → Option Value} {base : Heap} (T : Env K mg) : ∃ fd, FunD K "ends" "At.ends" (defArgs s_At_ends) (defBody s_At_ends) (defScope s_At_ends) [] [] (He.ma K (He.ga K "At") "ends") fd ∧ Fb P w K mg base 1 (He.ma K (He.ga K "At") "ends") fd ["self"] (sp_At_ends K) := by
  obtain ⟨fd, F⟩ := T.f_At_ends
  refine ⟨fd, F, fb_of F sc_At_ends (fun vs H Q E h => ?_) (fun cdv A outer s H vs Q E hr h => ?_)⟩
  · obtain ⟨a, n, rfl, _⟩ := h
    rfl
  · obtain ⟨a, n, rfl, ⟨dx, ha⟩, q⟩ := h
    refine ⟨_, (pss_one (ps_ret (pe_fld (pv 0) (by rfl)))), ?_⟩
    exact ⟨_, rfl, a, _, dx, _, _, rfl, ha, T.c_At, T.a_At_moment, rfl, q⟩
theorem ok_At_ends {P : Program} {w : World} {K : PySem.W.Frag} {mg : Str → Option Value} {base : Heap} (T : Env K mg) : Fc P w K mg base 1 (He.ma K (He.ga K "At") "ends") [] (sp_At_ends K ) := by
  obtain ⟨fd, D, F⟩ := fb_At_ends T
  exact F.all (D.bindsN fun _ _ _ _ _ _ us hl => match us, hl with | [_], _ => rfl)
end
section
/-- whole numbers as values -/
def natV (ns : List Nat) : List V := ns.map fun n : Nat => V.int (n : Int)
theorem natV_len (ns : List Nat) : (natV ns).length = ns.length := by
  unfold natV
  rw [List.length_map]
theorem cut1 (xs : List V) : cutV xs (some 1) none = xs.drop 1 := by
  unfold cutV
  rw [HT.sIx_none, show (some (1 : Int)) = some ((1 : Nat) : Int) from rfl, HT.sIx_nat]
  cases xs with
  | nil => rfl
  | cons x r =>
    rw [show min 1 (x :: r).length = 1 by simp]
    exact List.take_of_length_le (by simp)
end
section
/-- the moments of ns, over and over -/
def overN (ns : List Nat) (m s : Nat) : List Nat := (List.range m).flatMap fun t => ns.map fun n => n + t * s
theorem overN_len (ns : List Nat) (m s : Nat) : (overN ns m s).length = m * ns.length := by
  unfold overN
  induction m with
  | zero => simp
  | succ m ih =>
    rw [List.range_succ, List.flatMap_append, List.length_append, ih]
    simp
    rw [Nat.add_mul, Nat.one_mul]
theorem overN_succ (ns : List Nat) (m s : Nat) : overN ns (m + 1) s = overN ns m s ++ ns.map fun n => n + m * s := by
  unfold overN
  rw [List.range_succ, List.flatMap_append]
  simp
/-- shorts -/
inductive Tr where
  | at (n : Nat)
  | ov (ps : List Tr) (m s : Nat)
mutual
def Tr.moms : Tr → List Nat
  | .at n => [n]
  | .ov ps m s => overN (momsL ps) m s
def momsL : List Tr → List Nat
  | [] => []
  | t :: ts => t.moms ++ momsL ts
end
mutual
def Tr.nest : Tr → Nat
  | .at _ => 0
  | .ov ps _ _ => 1 + nestL ps
def nestL : List Tr → Nat
  | [] => 0
  | t :: ts => max t.nest (nestL ts)
end
mutual
def Tr.pcs : Tr → Nat
  | .at _ => 1
  | .ov ps _ _ => 1 + pcsL ps
def pcsL : List Tr → Nat
  | [] => 0
  | t :: ts => t.pcs + pcsL ts
end
theorem pcsL_app (a b : List Tr) : pcsL (a ++ b) = pcsL a + pcsL b := by
  induction a with
  | nil => simp [pcsL]
  | cons t r ih => simp [pcsL, ih, Nat.add_assoc]
theorem momsL_app (a b : List Tr) : momsL (a ++ b) = momsL a ++ momsL b := by
  induction a with
  | nil => simp [momsL]
  | cons t r ih => simp [momsL, ih]
theorem nestL_mem {t : Tr} : ∀ {ts : List Tr}, t ∈ ts → t.nest ≤ nestL ts
  | x :: r, h => by
    show _ ≤ max x.nest (nestL r)
    rcases List.mem_cons.mp h with rfl | h
    · exact Nat.le_max_left _ _
    · exact Nat.le_trans (nestL_mem h) (Nat.le_max_right _ _)
theorem nestL_max : ∀ {ts : List Tr}, ts ≠ [] → ∃ t ∈ ts, t.nest = nestL ts
  | [t], _ => ⟨t, List.mem_cons_self, by show _ = max t.nest 0; omega⟩
  | t :: x :: r, _ => by
    obtain ⟨y, hy, e⟩ := nestL_max (ts := x :: r) (by simp)
    have e2 : nestL (t :: x :: r) = max t.nest (nestL (x :: r)) := by simp [nestL]
    by_cases c : nestL (x :: r) ≤ t.nest
    · exact ⟨t, List.mem_cons_self, by omega⟩
    · exact ⟨y, List.mem_cons_of_mem _ hy, by omega⟩
theorem momsL_take {ts : List Tr} {i : Nat} {t : Tr} (h : ts[i]? = some t) : momsL (ts.take (i + 1)) = momsL (ts.take i) ++ t.moms := by
  rw [take_snoc h, momsL_app]
  simp [momsL]
theorem momsL_take_len (ts : List Tr) (i : Nat) : (momsL (ts.take i)).length ≤ (momsL ts).length := by
  conv => rhs; rw [← List.take_append_drop i ts, momsL_app, List.length_append]
  omega
mutual
/-- a short that may be made -/
def Tr.ok : Tr → Prop
  | .at _ => True
  | .ov ps m s => ps ≠ [] ∧ 2 ≤ m ∧ 1 ≤ s ∧ m * (momsL ps).length ≤ 1440 ∧ (momsL ps).getLastD 0 < s + (momsL ps).headD 0 ∧ (momsL ps).Pairwise (· < ·) ∧ okL_ ps
def okL_ : List Tr → Prop
  | [] => True
  | t :: ts => t.ok ∧ okL_ ts
end
theorem okL_mem {t : Tr} : ∀ {ts : List Tr}, okL_ ts → t ∈ ts → t.ok
  | x :: r, h, hm => by
    unfold okL_ at h
    rcases List.mem_cons.mp hm with rfl | hm
    · exact h.1
    · exact okL_mem h.2 hm
theorem pos_moms (t : Tr) (h : t.ok) : 1 ≤ t.moms.length := by
  match t, h with
  | .at n, _ =>
    unfold Tr.moms
    exact Nat.le_refl _
  | .ov (x :: r) m s, h =>
    unfold Tr.ok at h
    obtain ⟨_, h2, _, _, _, _, h7⟩ := h
    unfold Tr.moms
    rw [overN_len]
    have hx : 1 ≤ x.moms.length := pos_moms x (by unfold okL_ at h7; exact h7.1)
    have : 1 ≤ (momsL (x :: r)).length := by
      unfold momsL
      rw [List.length_append]
      omega
    exact Nat.le_trans (by decide) (Nat.mul_le_mul h2 this)
  | .ov [] m s, h =>
    unfold Tr.ok at h
    exact absurd rfl h.1
theorem len_moms : ∀ {ts : List Tr}, okL_ ts → ts.length ≤ (momsL ts).length
  | [], _ => Nat.le_refl _
  | t :: ts, h => by
    unfold okL_ at h
    have h1 := pos_moms t h.1
    have h2 := len_moms h.2
    unfold momsL
    rw [List.length_cons, List.length_append]
    omega
theorem ov_facts {ps : List Tr} {m s : Nat} (h : (Tr.ov ps m s).ok) : ps ≠ [] ∧ 2 ≤ m ∧ m ≤ 1440 ∧ m * (momsL ps).length ≤ 1440 ∧ (momsL ps).length ≤ 1440 ∧ ps.length ≤ 1440 ∧ okL_ ps := by
  unfold Tr.ok at h
  obtain ⟨h1, h2, h3, h4, _, _, h7⟩ := h
  have h8 := len_moms h7
  have h9 : 0 < ps.length := List.length_pos_iff.mpr h1
  have h10 : m ≤ m * (momsL ps).length := Nat.le_mul_of_pos_right m (by omega)
  have h11 : (momsL ps).length ≤ m * (momsL ps).length := Nat.le_mul_of_pos_left _ (by omega)
  exact ⟨h1, h2, by omega, h4, by omega, by omega, h7⟩
theorem momsL_few : ∀ {ts : List Tr}, okL_ ts → (momsL ts).length ≤ 1440 * ts.length
  | [], _ => by
    unfold momsL
    exact Nat.zero_le _
  | t :: r, h => by
    have h1 : t.moms.length ≤ 1440 := by
      have h2 := h
      unfold okL_ at h2
      cases t with
      | «at» n =>
        unfold Tr.moms
        show 1 ≤ 1440
        decide
      | ov ps m s =>
        have h3 := h2.1
        unfold Tr.ok at h3
        unfold Tr.moms
        rw [overN_len]
        exact h3.2.2.2.1
    have h2 : (momsL r).length ≤ 1440 * r.length := momsL_few (by unfold okL_ at h; exact h.2)
    unfold momsL
    rw [List.length_append, List.length_cons]
    omega
theorem ov_nest {ps : List Tr} {m s d : Nat} (h : (Tr.ov ps m s).nest ≤ d + 1) : nestL ps ≤ d := by
  unfold Tr.nest at h
  omega
theorem headD_app {a b : List Nat} (h : a ≠ []) : (a ++ b).headD 0 = a.headD 0 := by
  cases a with
  | nil => exact absurd rfl h
  | cons x r => rfl
theorem lastD_app {a b : List Nat} (h : b ≠ []) : (a ++ b).getLastD 0 = b.getLastD 0 := by
  rw [List.getLastD_eq_getLast?, List.getLastD_eq_getLast?, List.getLast?_append]
  cases hb : b.getLast? with
  | none => exact absurd (List.getLast?_eq_none_iff.mp hb) h
  | some x => rfl
theorem lastD_map {a : List Nat} (k : Nat) (h : a ≠ []) : (a.map fun n => n + k).getLastD 0 = a.getLastD 0 + k := by
  rw [List.getLastD_eq_getLast?, List.getLastD_eq_getLast?, List.getLast?_map]
  cases hb : a.getLast? with
  | none => exact absurd (List.getLast?_eq_none_iff.mp hb) h
  | some x => rfl
theorem overN_head {ns : List Nat} {s : Nat} (h : ns ≠ []) : ∀ m, 1 ≤ m → (overN ns m s).headD 0 = ns.headD 0
  | 1, _ => by
    rw [overN_succ]
    show ([] ++ ns.map fun n => n + 0 * s).headD 0 = _
    cases ns with
    | nil => exact absurd rfl h
    | cons x r => simp
  | m + 2, _ => by
    have ih := overN_head (s := s) h (m + 1) (by omega)
    have ne : overN ns (m + 1) s ≠ [] := fun z => by
      have := congrArg List.length z
      rw [overN_len] at this
      have p : 0 < ns.length := List.length_pos_iff.mpr h
      have : (m + 1) * ns.length = 0 := this
      have := Nat.mul_pos (show 0 < m + 1 by omega) p
      omega
    rw [overN_succ, headD_app ne, ih]
theorem overN_last {ns : List Nat} {m s : Nat} (h : ns ≠ []) (hm : 1 ≤ m) : (overN ns m s).getLastD 0 = ns.getLastD 0 + (m - 1) * s := by
  obtain ⟨k, rfl⟩ : ∃ k, m = k + 1 := ⟨m - 1, by omega⟩
  rw [overN_succ, lastD_app (by intro z; exact h (List.map_eq_nil_iff.mp z)), lastD_map _ h]
  rfl
theorem moms_ne {t : Tr} (h : t.ok) : t.moms ≠ [] := fun z => by
  have := pos_moms t h
  rw [z] at this
  exact absurd this (by decide)
theorem momsL_ne {ts : List Tr} (h : okL_ ts) (h0 : ts ≠ []) : momsL ts ≠ [] := fun z => by
  have h1 := len_moms h
  rw [z] at h1
  exact h0 (List.length_eq_zero_iff.mp (Nat.le_zero.mp h1))
theorem momsL_head {t : Tr} {ts : List Tr} (h : okL_ (t :: ts)) : (momsL (t :: ts)).headD 0 = t.moms.headD 0 := by
  have e : momsL (t :: ts) = t.moms ++ momsL ts := by simp [momsL]
  rw [e, headD_app (moms_ne (okL_mem h List.mem_cons_self))]
theorem momsL_last {t : Tr} {ts : List Tr} (h : okL_ (ts ++ [t])) : (momsL (ts ++ [t])).getLastD 0 = t.moms.getLastD 0 := by
  have ht : t.ok := okL_mem h (List.mem_append_right _ List.mem_cons_self)
  have e : momsL [t] = t.moms := by simp [momsL]
  rw [momsL_app, e, lastD_app (moms_ne ht)]
theorem last_ref {as : List Addr} (h : as ≠ []) : ∃ b, as[as.length - 1]? = some b ∧ atI (as.map V.ref) (-1) = some (.ref b) := by
  refine ⟨as.getLast h, ?_, ?_⟩
  · have p : 0 < as.length := List.length_pos_iff.mpr h
    rw [List.getLast_eq_getElem, List.getElem?_eq_getElem (by omega)]
  · have e := (List.dropLast_concat_getLast h).symm
    generalize as.getLast h = z at e
    rw [e, List.map_append]
    exact atI_last _ _
/-- rising: each behind the end of the one ahead -/
def risB (ts : List Tr) : Bool := (ts.zip (ts.drop 1)).all fun p => decide (p.1.moms.getLastD 0 < p.2.moms.headD 0)
theorem all_repT (n : Nat) : (List.replicate n true).all id = true := by
  induction n with
  | zero => rfl
  | succ n ih =>
    rw [List.replicate_succ, List.all_cons, ih]
    rfl
theorem le_lastD {ns : List Nat} (h : ns.Pairwise (· < ·)) : ∀ n ∈ ns, n ≤ ns.getLastD 0 := fun n hn => by
  have h0 : ns ≠ [] := fun z => by rw [z] at hn; cases hn
  have e : ns.getLastD 0 = ns.getLast h0 := by
    rw [List.getLastD_eq_getLast?, List.getLast?_eq_some_getLast h0]
    rfl
  rw [e]
  have ec := (List.dropLast_concat_getLast h0).symm
  generalize ns.getLast h0 = z at ec
  rw [ec] at hn h
  rcases List.mem_append.mp hn with hm | hm
  · exact Nat.le_of_lt ((List.pairwise_append.mp h).2.2 n hm z (List.mem_singleton.mpr rfl))
  · rw [List.mem_singleton.mp hm]
    exact Nat.le_refl _
theorem headD_le {ns : List Nat} (h : ns.Pairwise (· < ·)) : ∀ n ∈ ns, ns.headD 0 ≤ n := fun n hn => by
  cases ns with
  | nil => cases hn
  | cons x r =>
    show x ≤ n
    rcases List.mem_cons.mp hn with rfl | hm
    · exact Nat.le_refl _
    · exact Nat.le_of_lt ((List.pairwise_cons.mp h).1 n hm)
theorem mem_overN {ns : List Nat} {m s x : Nat} : x ∈ overN ns m s ↔ ∃ t n, t < m ∧ n ∈ ns ∧ x = n + t * s := by
  unfold overN
  rw [List.mem_flatMap]
  constructor
  · rintro ⟨t, ht, h⟩
    obtain ⟨n, hn, rfl⟩ := List.mem_map.mp h
    exact ⟨t, n, List.mem_range.mp ht, hn, rfl⟩
  · rintro ⟨t, n, ht, hn, rfl⟩
    exact ⟨t, List.mem_range.mpr ht, List.mem_map.mpr ⟨n, hn, rfl⟩⟩
theorem overN_sorted {ns : List Nat} {s : Nat} (h : ns.Pairwise (· < ·)) (hs : ns.getLastD 0 < s + ns.headD 0) : ∀ m, (overN ns m s).Pairwise (· < ·)
  | 0 => .nil
  | m + 1 => by
    rw [overN_succ]
    refine List.pairwise_append.mpr ⟨overN_sorted h hs m, List.pairwise_map.mpr (h.imp fun {a b} z => by omega), fun a ha b hb => ?_⟩
    obtain ⟨t, n, ht, hn, rfl⟩ := mem_overN.mp ha
    obtain ⟨k, hk, rfl⟩ := List.mem_map.mp hb
    have h1 := le_lastD h n hn
    have h2 := headD_le h k hk
    have h3 : t * s + s ≤ m * s := by
      have := Nat.mul_le_mul_right s (show t + 1 ≤ m by omega)
      rw [Nat.add_mul, Nat.one_mul] at this
      exact this
    omega
mutual
theorem sorted_moms : ∀ {t : Tr}, t.ok → t.moms.Pairwise (· < ·)
  | .at n, _ => by
    unfold Tr.moms
    exact List.pairwise_singleton _ _
  | .ov ps m s, h => by
    unfold Tr.ok at h
    obtain ⟨_, _, _, _, h5, h6, _⟩ := h
    unfold Tr.moms
    exact overN_sorted h6 h5 m
end
theorem risB_cons {t x : Tr} {r : List Tr} (h : risB (t :: x :: r) = true) : t.moms.getLastD 0 < x.moms.headD 0 ∧ risB (x :: r) = true := by
  have h : (decide (t.moms.getLastD 0 < x.moms.headD 0) && risB (x :: r)) = true := h
  obtain ⟨h1, h2⟩ := Bool.and_eq_true_iff.mp h
  exact ⟨of_decide_eq_true h1, h2⟩
theorem ris_sorted : ∀ {ts : List Tr}, okL_ ts → risB ts = true → (momsL ts).Pairwise (· < ·)
  | [], _, _ => by
    unfold momsL
    exact .nil
  | [t], h, _ => by
    have e : momsL [t] = t.moms := by simp [momsL]
    rw [e]
    exact sorted_moms (okL_mem h List.mem_cons_self)
  | t :: x :: r, h, hr => by
    obtain ⟨h1, h2⟩ := risB_cons hr
    have hok : okL_ (x :: r) := by
      unfold okL_ at h
      exact h.2
    have ih := ris_sorted hok h2
    have e : momsL (t :: x :: r) = t.moms ++ momsL (x :: r) := by rw [momsL]
    rw [e]
    refine List.pairwise_append.mpr ⟨sorted_moms (okL_mem h List.mem_cons_self), ih, fun a ha b hb => ?_⟩
    have g1 := le_lastD (sorted_moms (okL_mem h List.mem_cons_self)) a ha
    have g2 := headD_le ih b hb
    rw [momsL_head hok] at g2
    omega
theorem lastD_mem {ns : List Nat} (h : ns ≠ []) : ns.getLastD 0 ∈ ns := by
  rw [List.getLastD_eq_getLast?, List.getLast?_eq_some_getLast h]
  exact List.getLast_mem h
theorem headD_mem {ns : List Nat} (h : ns ≠ []) : ns.headD 0 ∈ ns := by
  cases ns with
  | nil => exact absurd rfl h
  | cons x r => exact List.mem_cons_self
theorem ris_of : ∀ {ts : List Tr}, okL_ ts → (momsL ts).Pairwise (· < ·) → risB ts = true
  | [], _, _ => rfl
  | [t], _, _ => rfl
  | t :: x :: r, h, hs => by
    have hok : okL_ (x :: r) := by
      unfold okL_ at h
      exact h.2
    have e : momsL (t :: x :: r) = t.moms ++ momsL (x :: r) := by rw [momsL]
    rw [e] at hs
    obtain ⟨h1, h2, h3⟩ := List.pairwise_append.mp hs
    have ih := ris_of hok h2
    have lt := h3 _ (lastD_mem (moms_ne (okL_mem h List.mem_cons_self))) _ (headD_mem (momsL_ne hok (by simp)))
    rw [momsL_head hok] at lt
    show (decide (t.moms.getLastD 0 < x.moms.headD 0) && risB (x :: r)) = true
    rw [decide_eq_true lt, ih]
    rfl
end
section
abbrev OverC (K : PySem.W.Frag) : Addr := He.ga K "Over"
def overF (kp : Addr) (m s : Nat) : List (Str × V) := [("kept", .ref kp), ("many", .int (m : Nat)), ("step", .int (s : Nat))]
mutual
/-- at a this short -/
def ShAt (K : PySem.W.Frag) (H : Hp) : Tr → Addr → Prop
  | .at n, a => AtAt K H a n
  | .ov ps m s, a => ∃ dx kp as, H a = some (.ins (OverC K) dx (overF kp m s)) ∧ H kp = some (.tup (as.map V.ref)) ∧ ShsAt K H ps as
def ShsAt (K : PySem.W.Frag) (H : Hp) : List Tr → List Addr → Prop
  | [], as => as = []
  | t :: ts, as => ∃ a r, as = a :: r ∧ ShAt K H t a ∧ ShsAt K H ts r
end
mutual
theorem ShAt.mono {K : PySem.W.Frag} {H H' : Hp} (e : Ex H H') : ∀ {t : Tr} {a : Addr}, ShAt K H t a → ShAt K H' t a
  | .at n, a, h => by
    unfold ShAt at h ⊢
    exact AtAt.mono h e
  | .ov ps m s, a, h => by
    unfold ShAt at h ⊢
    obtain ⟨dx, kp, as, h1, h2, h3⟩ := h
    exact ⟨dx, kp, as, e _ _ h1, e _ _ h2, ShsAt.mono e h3⟩
theorem ShsAt.mono {K : PySem.W.Frag} {H H' : Hp} (e : Ex H H') : ∀ {ts : List Tr} {as : List Addr}, ShsAt K H ts as → ShsAt K H' ts as
  | [], as, h => by
    unfold ShsAt at h ⊢
    exact h
  | t :: ts, as, h => by
    unfold ShsAt at h ⊢
    obtain ⟨a, r, h1, h2, h3⟩ := h
    exact ⟨a, r, h1, ShAt.mono e h2, ShsAt.mono e h3⟩
end
theorem ShsAt.len {K : PySem.W.Frag} {H : Hp} : ∀ {ts : List Tr} {as : List Addr}, ShsAt K H ts as → as.length = ts.length
  | [], as, h => by
    unfold ShsAt at h
    rw [h]
    rfl
  | t :: ts, as, h => by
    unfold ShsAt at h
    obtain ⟨a, r, rfl, _, h3⟩ := h
    rw [List.length_cons, List.length_cons, ShsAt.len h3]
theorem ShsAt.get {K : PySem.W.Frag} {H : Hp} : ∀ {ts : List Tr} {as : List Addr} {i : Nat} {a : Addr}, ShsAt K H ts as → as[i]? = some a → ∃ t, ts[i]? = some t ∧ ShAt K H t a
  | [], as, i, a, h, hi => by
    unfold ShsAt at h
    rw [h] at hi
    cases hi
  | t :: ts, as, i, a, h, hi => by
    unfold ShsAt at h
    obtain ⟨b, r, rfl, h2, h3⟩ := h
    cases i with
    | zero =>
      cases hi
      exact ⟨t, rfl, h2⟩
    | succ i => exact ShsAt.get (i := i) h3 hi
/-- nothing in it is a list -/
theorem ShAt.ins {K : PySem.W.Frag} {H : Hp} {t : Tr} {a : Addr} (h : ShAt K H t a) : ∃ C dx fs, H a = some (.ins C dx fs) := by
  cases t with
  | «at» n =>
    unfold ShAt at h
    obtain ⟨dx, h⟩ := h
    exact ⟨_, dx, _, h⟩
  | ov ps m s =>
    unfold ShAt at h
    obtain ⟨dx, kp, as, h1, _⟩ := h
    exact ⟨_, dx, _, h1⟩
mutual
theorem ShAt.oth {K : PySem.W.Frag} {H H' : Hp} {d : Addr} (o : Oth d H H') (hd : ∀ ob, H d = some ob → (∃ xs, ob = .lst xs)) : ∀ {t : Tr} {a : Addr}, ShAt K H t a → ShAt K H' t a
  | .at n, a, h => by
    unfold ShAt at h ⊢
    obtain ⟨dx, h⟩ := h
    refine ⟨dx, o _ _ (fun z => ?_) h⟩
    obtain ⟨xs, e⟩ := hd _ (z ▸ h)
    cases e
  | .ov ps m s, a, h => by
    unfold ShAt at h ⊢
    obtain ⟨dx, kp, as, h1, h2, h3⟩ := h
    refine ⟨dx, kp, as, o _ _ (fun z => ?_) h1, o _ _ (fun z => ?_) h2, ShsAt.oth o hd h3⟩
    · obtain ⟨xs, e⟩ := hd _ (z ▸ h1)
      cases e
    · obtain ⟨xs, e⟩ := hd _ (z ▸ h2)
      cases e
theorem ShsAt.oth {K : PySem.W.Frag} {H H' : Hp} {d : Addr} (o : Oth d H H') (hd : ∀ ob, H d = some ob → (∃ xs, ob = .lst xs)) : ∀ {ts : List Tr} {as : List Addr}, ShsAt K H ts as → ShsAt K H' ts as
  | [], as, h => by
    unfold ShsAt at h ⊢
    exact h
  | t :: ts, as, h => by
    unfold ShsAt at h ⊢
    obtain ⟨a, r, h1, h2, h3⟩ := h
    exact ⟨a, r, h1, ShAt.oth o hd h2, ShsAt.oth o hd h3⟩
end
def sp_Over_moments (K : PySem.W.Frag) (d : Nat) : Sp := fun vs H Q _ => ∃ a ps m s, vs = [.ref a] ∧ ShAt K H (.ov ps m s) a ∧ (Tr.ov ps m s).nest ≤ d ∧ (Tr.ov ps m s).ok ∧ ∀ p H', Ex H H' → H p = none → H' p = some (.lst (natV (Tr.ov ps m s).moms)) → Q (.ref p) H'
def sp_Over_means_many (K : PySem.W.Frag) (d : Nat) : Sp := fun vs H Q _ => ∃ a ps m s, vs = [.ref a] ∧ ShAt K H (.ov ps m s) a ∧ (Tr.ov ps m s).nest ≤ d ∧ okL_ ps ∧ ps.length ≤ 20000 ∧ ∀ H', Ex H H' → Q (.int ((m * (momsL ps).length : Nat) : Int)) H'
def sp_Over_nested (K : PySem.W.Frag) (d : Nat) : Sp := fun vs H Q _ => ∃ a ps m s, vs = [.ref a] ∧ ShAt K H (.ov ps m s) a ∧ (Tr.ov ps m s).nest ≤ d ∧ ps ≠ [] ∧ okL_ ps ∧ ps.length ≤ 20000 ∧ ∀ H', Ex H H' → Q (.int (((Tr.ov ps m s).nest : Nat) : Int)) H'
def sp_Over_begins (K : PySem.W.Frag) (d : Nat) : Sp := fun vs H Q _ => ∃ a ps m s, vs = [.ref a] ∧ ShAt K H (.ov ps m s) a ∧ (Tr.ov ps m s).nest ≤ d ∧ (Tr.ov ps m s).ok ∧ Q (.int ((((Tr.ov ps m s).moms.headD 0 : Nat)) : Int)) H
def sp_Over_ends (K : PySem.W.Frag) (d : Nat) : Sp := fun vs H Q _ => ∃ a ps m s, vs = [.ref a] ∧ ShAt K H (.ov ps m s) a ∧ (Tr.ov ps m s).nest ≤ d ∧ (Tr.ov ps m s).ok ∧ Q (.int ((((Tr.ov ps m s).moms.getLastD 0 : Nat)) : Int)) H
theorem ShsAt.snoc {K : PySem.W.Frag} {H : Hp} {t : Tr} {a : Addr} : ∀ {ts : List Tr} {as : List Addr}, ShsAt K H ts as → ShAt K H t a → ShsAt K H (ts ++ [t]) (as ++ [a])
  | [], as, h, ha => by
    unfold ShsAt at h
    rw [h]
    show ShsAt K H [t] [a]
    unfold ShsAt
    exact ⟨a, [], rfl, ha, by unfold ShsAt; rfl⟩
  | x :: ts, as, h, ha => by
    unfold ShsAt at h
    obtain ⟨b, r, rfl, h2, h3⟩ := h
    show ShsAt K H (x :: (ts ++ [t])) (b :: (r ++ [a]))
    unfold ShsAt
    exact ⟨b, r ++ [a], rfl, h2, ShsAt.snoc h3 ha⟩
end
section
theorem fb_Over_ends {P : Program} {w : World} {K : PySem.W.Frag} {mg : Str → Option Value} {base : Heap} (T : Env K mg) {d L : Nat} (hL : 40 ≤ L) (r_Over_ends : Fc P w K mg base L (He.ma K (He.ga K "Over") "ends") [] (sp_Over_ends K d)) : ∃ fd, FunD K "ends" "Over.ends" (defArgs s_Over_ends) (defBody s_Over_ends) (defScope s_Over_ends) [] [] (He.ma K (He.ga K "Over") "ends") fd ∧ Fb P w K mg base (L + 1) (He.ma K (He.ga K "Over") "ends") fd ["self"] (sp_Over_ends K (d + 1)) := by
  obtain ⟨fd, F⟩ := T.f_Over_ends
  refine ⟨fd, F, fb_of F sc_Over_ends (fun vs H Q E h => ?_) (fun cdv A outer s H vs Q E hr h => ?_)⟩
  · obtain ⟨a, ps, m, s, rfl, _⟩ := h
    rfl
  · obtain ⟨a, ps, m, s_, rfl, hO, hn, hok, q⟩ := h
    refine ⟨_, (pss_one (ps_ret (pe_op op_add (pe_orE (c_meth0 (pe_ix ix_tup (pe_fld (pv 0) (by rfl)) (pe_un un_neg pe_int) (fun _ _ => rfl)) T.c_At T.m_At_ends (ok_At_ends T) (hr.mono (by omega)) takes0) (c_meth0 (pe_ix ix_tup (pe_fld (pv 0) (by rfl)) (pe_un un_neg pe_int) (fun _ _ => rfl)) T.c_Over T.m_Over_ends r_Over_ends (hr.mono (by omega)) takes0)) (pe_op op_mul (pe_op op_sub (pe_fld (pv 0) (by rfl)) pe_int) (pe_fld (pv 0) (by rfl)))))), ?_⟩
    have hnL := ov_nest hn
    obtain ⟨o1, o2, _, _, _, _, o7⟩ := ov_facts hok
    have nn := momsL_ne o7 o1
    unfold Tr.moms at q
    obtain ⟨dx, kp, as, ha, hk, hA⟩ := (by unfold ShAt at hO; exact hO : ∃ dx kp as, H a = some (.ins (OverC K) dx (overF kp m s_)) ∧ H kp = some (.tup (as.map V.ref)) ∧ ShsAt K H ps as)
    rw [overN_last nn (by omega)] at q
    have hm := (ov_facts hok).2.2.1
    have hl1 := hA.len
    have as0 : as ≠ [] := fun z => by
      rw [z] at hl1
      exact o1 (List.length_eq_zero_iff.mp hl1.symm)
    obtain ⟨b, gb, aL⟩ := last_ref as0
    obtain ⟨t, ht, hS⟩ := hA.get gb
    have ep : ps = ps.dropLast ++ [t] := by
      have e := (List.dropLast_concat_getLast o1).symm
      have e2 : ps.getLast o1 = t := by
        rw [List.getLast_eq_getElem]
        rw [hl1] at ht
        obtain ⟨_, e⟩ := List.getElem?_eq_some_iff.mp ht
        exact e
      rw [e2] at e
      exact e
    have htm := List.mem_of_getElem? ht
    have eL : (momsL ps).getLastD 0 = t.moms.getLastD 0 := by
      rw [ep] at o7 ⊢
      exact momsL_last o7
    rw [eL] at q
    have ok := okL_mem o7 htm
    have tn := Nat.le_trans (nestL_mem htm) hnL
    have e : ((t.moms.getLastD 0 : Nat) : Int) + (((m : Nat) : Int) - 1) * ((s_ : Nat) : Int) = ((t.moms.getLastD 0 + (m - 1) * s_ : Nat) : Int) := by
      rw [Int.natCast_add, Int.natCast_mul, Int.natCast_sub (by omega)]
      rfl
    rw [← e] at q
    cases t with
    | «at» n =>
      unfold ShAt at hS
      obtain ⟨dy, h2⟩ := id hS
      unfold Tr.moms at q
      exact .inl ⟨_, rfl, a, _, dx, _, _, rfl, ha, T.c_Over, T.a_Over_kept, rfl, _, rfl, kp, _, _, _, rfl, rfl, sq_tup hk, aL, b, dy, _, rfl, h2, rfl, b, n, rfl, hS, _, rfl, a, _, dx, _, _, rfl, ha, T.c_Over, T.a_Over_many, rfl, _, _, rfl, rfl, _, rfl, a, _, dx, _, _, rfl, ha, T.c_Over, T.a_Over_step, rfl, _, _, rfl, rfl, .inl ⟨by omega, by omega⟩, _, _, rfl, rfl, q⟩
    | ov ps' m' s' =>
      obtain ⟨dy, kp', as', h2, _⟩ := (by unfold ShAt at hS; exact hS : ∃ dx kp as, H b = some (.ins (OverC K) dx (overF kp m' s')) ∧ H kp = some (.tup (as.map V.ref)) ∧ ShsAt K H ps' as)
      exact .inr ⟨_, rfl, a, _, dx, _, _, rfl, ha, T.c_Over, T.a_Over_kept, rfl, _, rfl, kp, _, _, _, rfl, rfl, sq_tup hk, aL, b, dy, _, rfl, h2, rfl, b, ps', m', s', rfl, hS, tn, ok, _, rfl, a, _, dx, _, _, rfl, ha, T.c_Over, T.a_Over_many, rfl, _, _, rfl, rfl, _, rfl, a, _, dx, _, _, rfl, ha, T.c_Over, T.a_Over_step, rfl, _, _, rfl, rfl, .inl ⟨by omega, by omega⟩, _, _, rfl, rfl, q⟩
theorem ok_Over_ends {P : Program} {w : World} {K : PySem.W.Frag} {mg : Str → Option Value} {base : Heap} (T : Env K mg) {d L : Nat} (hL : 40 ≤ L) (r_Over_ends : Fc P w K mg base L (He.ma K (He.ga K "Over") "ends") [] (sp_Over_ends K d)) : Fc P w K mg base (L + 1) (He.ma K (He.ga K "Over") "ends") [] (sp_Over_ends K (d + 1)) := by
  obtain ⟨fd, D, F⟩ := fb_Over_ends T hL r_Over_ends
  exact F.all (D.bindsN fun _ _ _ _ _ _ us hl => match us, hl with | [_], _ => rfl)
theorem all_Over_ends {P : Program} {w : World} {K : PySem.W.Frag} {mg : Str → Option Value} {base : Heap} (T : Env K mg) : ∀ d, Fc P w K mg base (40 + 1 * d) (He.ma K (He.ga K "Over") "ends") [] (sp_Over_ends K d)
  | 0 => fc_no fun vs H Q E h => by
    obtain ⟨a, ps, m, s, _, _, h, _⟩ := h
    unfold Tr.nest at h
    omega
  | d + 1 => ok_Over_ends T (Nat.le_add_right 40 _) (all_Over_ends T d)
end
section
def sp_At_begins (K : PySem.W.Frag) : Sp := fun vs H Q _ => ∃ a n, vs = [.ref a] ∧ AtAt K H a n ∧ Q (.int (n : Nat)) H
theorem fb_At_begins {P : Program} {w : World} {K : PySem.W.Frag} {mg : Str → Option Value} {base : Heap} (T : Env K mg) : ∃ fd, FunD K "begins" "At.begins" (defArgs s_At_begins) (defBody s_At_begins) (defScope s_At_begins) [] [] (He.ma K (He.ga K "At") "begins") fd ∧ Fb P w K mg base 1 (He.ma K (He.ga K "At") "begins") fd ["self"] (sp_At_begins K) := by
  obtain ⟨fd, F⟩ := T.f_At_begins
  refine ⟨fd, F, fb_of F sc_At_begins (fun vs H Q E h => ?_) (fun cdv A outer s H vs Q E hr h => ?_)⟩
  · obtain ⟨a, n, rfl, _⟩ := h
    rfl
  · obtain ⟨a, n, rfl, ⟨dx, ha⟩, q⟩ := h
    refine ⟨_, (pss_one (ps_ret (pe_fld (pv 0) (by rfl)))), ?_⟩
    exact ⟨_, rfl, a, _, dx, _, _, rfl, ha, T.c_At, T.a_At_moment, rfl, q⟩
theorem ok_At_begins {P : Program} {w : World} {K : PySem.W.Frag} {mg : Str → Option Value} {base : Heap} (T : Env K mg) : Fc P w K mg base 1 (He.ma K (He.ga K "At") "begins") [] (sp_At_begins K ) := by
  obtain ⟨fd, D, F⟩ := fb_At_begins T
  exact F.all (D.bindsN fun _ _ _ _ _ _ us hl => match us, hl with | [_], _ => rfl)
end
section
theorem fb_Over_begins {P : Program} {w : World} {K : PySem.W.Frag} {mg : Str → Option Value} {base : Heap} (T : Env K mg) {d L : Nat} (hL : 40 ≤ L) (r_Over_begins : Fc P w K mg base L (He.ma K (He.ga K "Over") "begins") [] (sp_Over_begins K d)) : ∃ fd, FunD K "begins" "Over.begins" (defArgs s_Over_begins) (defBody s_Over_begins) (defScope s_Over_begins) [] [] (He.ma K (He.ga K "Over") "begins") fd ∧ Fb P w K mg base (L + 1) (He.ma K (He.ga K "Over") "begins") fd ["self"] (sp_Over_begins K (d + 1)) := by
  obtain ⟨fd, F⟩ := T.f_Over_begins
  refine ⟨fd, F, fb_of F sc_Over_begins (fun vs H Q E h => ?_) (fun cdv A outer s H vs Q E hr h => ?_)⟩
  · obtain ⟨a, ps, m, s, rfl, _⟩ := h
    rfl
  · obtain ⟨a, ps, m, s_, rfl, hO, hn, hok, q⟩ := h
    refine ⟨_, (pss_one (ps_ret (pe_orE (c_meth0 (pe_ix ix_tup (pe_fld (pv 0) (by rfl)) pe_int (fun _ _ => rfl)) T.c_At T.m_At_begins (ok_At_begins T) (hr.mono (by omega)) takes0) (c_meth0 (pe_ix ix_tup (pe_fld (pv 0) (by rfl)) pe_int (fun _ _ => rfl)) T.c_Over T.m_Over_begins r_Over_begins (hr.mono (by omega)) takes0)))), ?_⟩
    have hnL := ov_nest hn
    obtain ⟨o1, o2, _, _, _, _, o7⟩ := ov_facts hok
    have nn := momsL_ne o7 o1
    unfold Tr.moms at q
    obtain ⟨dx, kp, as, ha, hk, hA⟩ := (by unfold ShAt at hO; exact hO : ∃ dx kp as, H a = some (.ins (OverC K) dx (overF kp m s_)) ∧ H kp = some (.tup (as.map V.ref)) ∧ ShsAt K H ps as)
    rw [overN_head nn m (by omega)] at q
    cases ps with
    | nil => exact absurd rfl o1
    | cons t ts =>
      rw [momsL_head o7] at q
      unfold ShsAt at hA
      obtain ⟨b, r, rfl, hS, _⟩ := hA
      have aF : atI ((b :: r).map V.ref) 0 = some (.ref b) := atI_nat (j := 0) rfl
      have ok := okL_mem o7 (List.mem_cons_self (a := t) (l := ts))
      have tn := Nat.le_trans (nestL_mem (List.mem_cons_self (a := t) (l := ts))) hnL
      cases t with
      | «at» n =>
        unfold ShAt at hS
        obtain ⟨dy, h2⟩ := id hS
        exact .inl ⟨_, rfl, a, _, dx, _, _, rfl, ha, T.c_Over, T.a_Over_kept, rfl, kp, _, _, _, rfl, rfl, sq_tup hk, aF, b, dy, _, rfl, h2, rfl, b, n, rfl, hS, by unfold Tr.moms at q; exact q⟩
      | ov ps' m' s' =>
        obtain ⟨dy, kp', as', h2, _⟩ := (by unfold ShAt at hS; exact hS : ∃ dx kp as, H b = some (.ins (OverC K) dx (overF kp m' s')) ∧ H kp = some (.tup (as.map V.ref)) ∧ ShsAt K H ps' as)
        exact .inr ⟨_, rfl, a, _, dx, _, _, rfl, ha, T.c_Over, T.a_Over_kept, rfl, kp, _, _, _, rfl, rfl, sq_tup hk, aF, b, dy, _, rfl, h2, rfl, b, ps', m', s', rfl, hS, tn, ok, q⟩
theorem ok_Over_begins {P : Program} {w : World} {K : PySem.W.Frag} {mg : Str → Option Value} {base : Heap} (T : Env K mg) {d L : Nat} (hL : 40 ≤ L) (r_Over_begins : Fc P w K mg base L (He.ma K (He.ga K "Over") "begins") [] (sp_Over_begins K d)) : Fc P w K mg base (L + 1) (He.ma K (He.ga K "Over") "begins") [] (sp_Over_begins K (d + 1)) := by
  obtain ⟨fd, D, F⟩ := fb_Over_begins T hL r_Over_begins
  exact F.all (D.bindsN fun _ _ _ _ _ _ us hl => match us, hl with | [_], _ => rfl)
theorem all_Over_begins {P : Program} {w : World} {K : PySem.W.Frag} {mg : Str → Option Value} {base : Heap} (T : Env K mg) : ∀ d, Fc P w K mg base (40 + 1 * d) (He.ma K (He.ga K "Over") "begins") [] (sp_Over_begins K d)
  | 0 => fc_no fun vs H Q E h => by
    obtain ⟨a, ps, m, s, _, _, h, _⟩ := h
    unfold Tr.nest at h
    omega
  | d + 1 => ok_Over_begins T (Nat.le_add_right 40 _) (all_Over_begins T d)
end
section
theorem sh_ends {K : PySem.W.Frag} {W : WX} {ta : TE} {σ : L2.St} {H : Hp} {Q : VK} {t : Tr} {a : Addr} {d : Nat} (hS : ShAt K H t a) (hok : t.ok) (hn : t.nest ≤ d) (hta : ∀ R : VK, R (.ref a) H → ta σ H R) (q : Q (.int ((t.moms.getLastD 0 : Nat) : Int)) H) : tOrE (tMt (He.ga K "At") "ends" (sp_At_ends K) W ta tNil) (tMt (He.ga K "Over") "ends" (sp_Over_ends K d) W ta tNil) σ H Q := by
  cases t with
  | «at» n =>
    unfold ShAt at hS
    obtain ⟨dy, h2⟩ := id hS
    unfold Tr.moms at q
    exact .inl (hta _ ⟨a, dy, _, rfl, h2, rfl, a, n, rfl, hS, q⟩)
  | ov ps' m' s' =>
    obtain ⟨dy, kp', as', h2, _⟩ := (by unfold ShAt at hS; exact hS : ∃ dx kp as, H a = some (.ins (OverC K) dx (overF kp m' s')) ∧ H kp = some (.tup (as.map V.ref)) ∧ ShsAt K H ps' as)
    exact .inr (hta _ ⟨a, dy, _, rfl, h2, rfl, a, ps', m', s', rfl, hS, hn, hok, q⟩)
theorem sh_begins {K : PySem.W.Frag} {W : WX} {ta : TE} {σ : L2.St} {H : Hp} {Q : VK} {t : Tr} {a : Addr} {d : Nat} (hS : ShAt K H t a) (hok : t.ok) (hn : t.nest ≤ d) (hta : ∀ R : VK, R (.ref a) H → ta σ H R) (q : Q (.int ((t.moms.headD 0 : Nat) : Int)) H) : tOrE (tMt (He.ga K "At") "begins" (sp_At_begins K) W ta tNil) (tMt (He.ga K "Over") "begins" (sp_Over_begins K d) W ta tNil) σ H Q := by
  cases t with
  | «at» n =>
    unfold ShAt at hS
    obtain ⟨dy, h2⟩ := id hS
    unfold Tr.moms at q
    exact .inl (hta _ ⟨a, dy, _, rfl, h2, rfl, a, n, rfl, hS, q⟩)
  | ov ps' m' s' =>
    obtain ⟨dy, kp', as', h2, _⟩ := (by unfold ShAt at hS; exact hS : ∃ dx kp as, H a = some (.ins (OverC K) dx (overF kp m' s')) ∧ H kp = some (.tup (as.map V.ref)) ∧ ShsAt K H ps' as)
    exact .inr (hta _ ⟨a, dy, _, rfl, h2, rfl, a, ps', m', s', rfl, hS, hn, hok, q⟩)
def sp_all_rising (K : PySem.W.Frag) : Sp := fun vs H Q _ => ∃ (p : Addr) (as : List Addr) (ts : List Tr), vs = [.ref p] ∧ H p = some (.tup (as.map V.ref)) ∧ ShsAt K H ts as ∧ nestL ts ≤ 9 ∧ okL_ ts ∧ ts.length ≤ 20000 ∧ ∀ H', Ex H H' → Q (.bl (risB ts)) H'
theorem fb_all_rising {P : Program} {w : World} {K : PySem.W.Frag} {mg : Str → Option Value} {base : Heap} (T : Env K mg) : ∃ fd, FunD K "all_rising" "all_rising" (defArgs s_all_rising) (defBody s_all_rising) (defScope s_all_rising) [] [] (He.ga K "all_rising") fd ∧ Fb P w K mg base 60 (He.ga K "all_rising") fd ["parts"] (sp_all_rising K) := by
  obtain ⟨fd, F⟩ := T.f_all_rising
  refine ⟨fd, F, fb_of F sc_all_rising (fun vs H Q E h => ?_) (fun cdv A outer s H vs Q E hr h => ?_)⟩
  · obtain ⟨p, as, ts, rfl, _⟩ := h
    rfl
  · obtain ⟨p, as, ts, rfl, hp, hA, hn, hok, hl, q⟩ := h
    refine ⟨_, (pss_one (ps_ret (pe_callB (cr_all rfl) (by rfl) T.n_all (by decide +kernel) (pa_cons (pe_lc (own := [("one", 1), ("other", 2)]) (by rfl) sc_all_rising.nd (RZ.pi_zipA (by rfl) T.n_zip (pa_cons (pv 0) (pa_cons (pe_slice sl_tupA (pv 0) (po_some pe_int) po_none) pa_nil))) (blkOk_by (own := [("one", 1), ("other", 2)]) (N := ["parts", "one", "other"]) (sc := defScope s_all_rising) (by decide +kernel)) (fun _ _ _ _ _ => (pg_tupK K (n := 2) rfl (pgs_cons (pg_name (i := 1) sc_all_rising.nd rfl (Or.inl rfl)) (pgs_cons (pg_name (i := 2) sc_all_rising.nd rfl (Or.inl rfl)) pgs_nil)))) (fun _ _ _ _ _ => pts_nil) (fun _ _ _ _ _ => (pe_cmpR op_lt (pe_orE (c_meth0 (pv 1) T.c_At T.m_At_ends (ok_At_ends T) (hr.mono (by decide)) takes0) (c_meth0 (pv 1) T.c_Over T.m_Over_ends (all_Over_ends T 9) (hr.mono (by decide)) takes0)) (pe_orE (c_meth0 (pv 2) T.c_At T.m_At_begins (ok_At_begins T) (hr.mono (by decide)) takes0) (c_meth0 (pv 2) T.c_Over T.m_Over_begins (all_Over_begins T 9) (hr.mono (by decide)) takes0)) (nomark _)))) pa_nil)))), ?_⟩
    refine ⟨_, rfl, _, rfl, _, rfl, ?_⟩
    dsimp only [tNoPart]
    refine slA_of (sq_tup hp) fun b2 H4 X4 hb2 => ?_
    rw [cut1] at hb2
    have ed : (as.map V.ref).drop 1 = (as.drop 1).map V.ref := by rw [List.map_drop]
    rw [ed] at hb2
    have hA4 := hA.mono X4
    have hl1 := hA.len
    have hz1 : (as.zip ts).map (fun p => V.ref p.1) = as.map V.ref := by
      show (as.zip ts).map (V.ref ∘ Prod.fst) = _
      rw [← List.map_map, List.map_fst_zip (by omega)]
    have hz1d : ((as.zip ts).drop 1).map (fun p => V.ref p.1) = (as.drop 1).map V.ref := by rw [List.map_drop, List.map_drop, hz1]
    have hz2 : (as.zip ts).map Prod.snd = ts := List.map_snd_zip (by omega)
    have zl : (as.zip ts).length ≤ 20000 := by rw [List.length_zip]; omega
    have hp4 : H4 p = some (.tup ((as.zip ts).map fun p => V.ref p.1)) := by rw [hz1]; exact X4 _ _ hp
    rw [← hz1d] at hb2
    refine ⟨p, b2, (as.zip ts).map (fun p => V.ref p.1), ((as.zip ts).drop 1).map (fun p => V.ref p.1), rfl, .inr ⟨sq_tup hp4, hb2, fun D nD => lc_zip (as.zip ts) ((as.zip ts).drop 1) (fun p => V.ref p.1) (fun p => V.ref p.1) (walk_zipT rfl) (by rw [List.length_map, List.length_map]) (fun x y => some (.bl (decide (x.2.moms.getLastD 0 < y.2.moms.headD 0)))) (fun H' => Ex H4 H') (fun H' z e => ex_mut e nD) (.refl _) (by omega) (fun H' e => ⟨sq_tup (e _ _ hp4), ex_sqt e hb2⟩) (fun i x y u H5 acc N hx hy X5 nu hD la k => ?_) fun H5 X5 d5 => ?_⟩⟩
    · have hD2 := fun o => ex_new (o := o) nu _ _ hD
      have Z := X5.trans (ex_new (o := .tup [.ref x.1, .ref y.1]) nu)
      rw [List.getElem?_drop] at hy
      obtain ⟨hx1, hx2⟩ := List.getElem?_zip_eq_some.mp hx
      obtain ⟨hy1, hy2⟩ := List.getElem?_zip_eq_some.mp hy
      have gx : ShAt K H4 x.2 x.1 := by
        obtain ⟨t, ht, h⟩ := hA4.get hx1
        rw [hx2] at ht
        cases ht
        exact h
      have gy : ShAt K H4 y.2 y.1 := by
        obtain ⟨t, ht, h⟩ := hA4.get hy1
        rw [hy2] at ht
        cases ht
        exact h
      have mx := List.mem_of_getElem? hx2
      have my := List.mem_of_getElem? hy2
      refine ⟨u, _, rfl, sq_tup upd_same, rfl, _, _, rfl, _, _, rfl, rfl, rfl, ?_⟩
      refine sh_ends (gx.mono Z) (okL_mem hok mx) (Nat.le_trans (nestL_mem mx) hn) (fun R r => ⟨_, rfl, r⟩) ?_
      refine sh_begins (gy.mono Z) (okL_mem hok my) (Nat.le_trans (nestL_mem my) hn) (fun R r => ⟨_, rfl, r⟩) ?_
      refine ⟨_, _, rfl, rfl, acc, hD2 _, la, ?_⟩
      have ei : decide (((x.2.moms.getLastD 0 : Nat) : Int) < ((y.2.moms.headD 0 : Nat) : Int)) = decide (x.2.moms.getLastD 0 < y.2.moms.headD 0) := decide_eq_decide.mpr ⟨fun z => by omega, fun z => by omega⟩
      show N (upd (upd H5 u (.tup [.ref x.1, .ref y.1])) D (.lst (acc ++ [.bl (decide (((x.2.moms.getLastD 0 : Nat) : Int) < ((y.2.moms.headD 0 : Nat) : Int)))])))
      rw [ei]
      exact k _ Z (hD2 _)
    · have ef : ((as.zip ts).zip ((as.zip ts).drop 1)).filterMap (fun p => some (V.bl (decide (p.1.2.moms.getLastD 0 < p.2.2.moms.headD 0)))) = ((ts.zip (ts.drop 1)).map fun p => decide (p.1.moms.getLastD 0 < p.2.moms.headD 0)).map V.bl := by
        rw [List.filterMap_eq_map', List.map_map]
        conv => rhs; rw [← hz2, ← List.map_drop, List.zip_map, List.map_map]
        rfl
      rw [ef] at d5
      refine ⟨D, _, rfl, sq_lst d5, ?_⟩
      rw [List.all_map]
      exact q _ (X4.trans X5)
theorem ok_all_rising {P : Program} {w : World} {K : PySem.W.Frag} {mg : Str → Option Value} {base : Heap} (T : Env K mg) : Fc P w K mg base 60 (He.ga K "all_rising") [] (sp_all_rising K ) := by
  obtain ⟨fd, D, F⟩ := fb_all_rising T
  exact F.all (D.bindsN fun _ _ _ _ _ _ us hl => match us, hl with | [_], _ => rfl)
end
section
/-- at p a list or a tuple -/
def SqA (H : Hp) (p : Addr) (xs : List V) : Prop := H p = some (.lst xs) ∨ H p = some (.tup xs)
def sp_shorts_in (K : PySem.W.Frag) : Sp := fun vs H Q E => ∃ (p : Addr) (as : List Addr) (ts : List Tr), vs = [.ref p] ∧ SqA H p (as.map V.ref) ∧ ShsAt K H ts as ∧ nestL ts ≤ 9 ∧ okL_ ts ∧ ts.length ≤ 20000 ∧ (risB ts = true → ∀ t H', Ex H H' → H' t = some (.tup (as.map V.ref)) → Q (.ref t) H') ∧ (risB ts = false → ∀ H', Ex H H' → E (.ref (He.ga K "NoPiece")) none H')
theorem fb_shorts_in {P : Program} {w : World} {K : PySem.W.Frag} {mg : Str → Option Value} {base : Heap} (T : Env K mg) : ∃ fd, FunD K "shorts_in" "shorts_in" (defArgs s_shorts_in) (defBody s_shorts_in) (defScope s_shorts_in) [] [] (He.ga K "shorts_in") fd ∧ Fb P w K mg base 61 (He.ga K "shorts_in") fd ["parts"] (sp_shorts_in K) := by
  obtain ⟨fd, F⟩ := T.f_shorts_in
  refine ⟨fd, F, fb_of F sc_shorts_in (fun vs H Q E h => ?_) (fun cdv A outer s H vs Q E hr h => ?_)⟩
  · obtain ⟨p, as, ts, rfl, _⟩ := h
    rfl
  · obtain ⟨p, as, ts, rfl, hp, hA, hn, hok, hl, q, qe⟩ := h
    refine ⟨_, (pss_cons (ps_if (pt_not (pt_val (pe_callB call_isiT (by rfl) T.n_isinstance (by decide +kernel) (pa_cons (pv 0) (pa_cons (pe_tup (pa_cons (pe_bltn (v := .ty "list") (by rfl) T.n_list (by decide +kernel) rfl) (pa_cons (pe_bltn (v := .ty "tuple") (by rfl) T.n_tuple (by decide +kernel) rfl) pa_nil))) pa_nil)))))
      (pss_one (ps_raise rfl (takes_of rfl rfl rfl rfl) (pmk_own PySem.F.excBase_ValueError T.x_NoPiece.x T.g_NoPiece T.x_NoPiece.kp (raises_own T.x_NoPiece.sub T.x_NoPiece.ty) rfl)))
      pss_nil)
      (pss_cons (ps_set (i := 1) sc_shorts_in.nd rfl (Or.inl rfl) (pe_callTy call_tuple_of (by rfl) T.n_tuple (by decide +kernel) (pa_cons (pv 0) pa_nil)))
      (pss_cons (ps_if (PW.pt (pw_or (pt_not (pt_val (pe_callB (cr_all rfl) (by rfl) T.n_all (by decide +kernel) (pa_cons (pe_lc (own := [("one", 2)]) (by rfl) sc_shorts_in.nd (pi_tup (pv 1)) (blkOk_by (own := [("one", 2)]) (N := ["parts", "found", "one"]) (sc := defScope s_shorts_in) (by decide +kernel)) (fun _ _ _ _ _ => (pg_name (i := 2) sc_shorts_in.nd rfl (Or.inl rfl))) (fun _ _ _ _ _ => pts_nil) (fun _ _ _ _ _ => (pe_callB (call_isiK K) (by rfl) T.n_isinstance (by decide +kernel) (pa_cons (pv 2) (pa_cons (pe_glob (v := .ref _) (by rfl) T.g_Short rfl) pa_nil))))) pa_nil)))) (pw_or1 (pt_not (pt_val (c_call (ok_all_rising T) (hr.mono (by decide)) T.g_all_rising T.k_all_rising (takes_of rfl rfl rfl rfl) (pa_cons (pv 1) pa_nil)))))))
      (pss_one (ps_raise rfl (takes_of rfl rfl rfl rfl) (pmk_own PySem.F.excBase_ValueError T.x_NoPiece.x T.g_NoPiece T.x_NoPiece.kp (raises_own T.x_NoPiece.sub T.x_NoPiece.ty) rfl)))
      pss_nil)
      (pss_one (ps_ret (pv 1)))))), ?_⟩
    have hl1 := hA.len
    refine ⟨_, rfl, by show 2 ≤ sizeLine; decide, fun tp ntp => ?_⟩
    have X1 := ex_new (o := .tup [.ty "list", .ty "tuple"]) ntp
    have ty : ∃ t, TyX K (upd H tp (.tup [.ty "list", .ty "tuple"])) (.ref p) t ∧ PySem.W.kitAny K t [.type "list", .type "tuple"] = some true := by
      rcases hp with h | h
      · exact ⟨_, .base (.lst (X1 _ _ h)), kitAny_cons (b := true) (kit_ty (by decide +kernel)) (fun z => nomatch z) (fun _ => rfl)⟩
      · exact ⟨_, .base (.tup (X1 _ _ h)), kitAny_cons (b := false) (kit_ty (by decide +kernel)) (fun _ => kitAny_cons (b := true) (kit_ty (by decide +kernel)) (fun z => nomatch z) (fun _ => rfl)) (by decide)⟩
    obtain ⟨t, ty, kt⟩ := ty
    refine ⟨.ref p, tp, _, t, _, true, rfl, upd_same, .cons (.ty "list") (.cons (.ty "tuple") .nil), ty, kt, true, rfl, iteF ?_⟩
    generalize upd H tp (.tup [.ty "list", .ty "tuple"]) = H1 at X1 ty ⊢
    refine ⟨_, rfl, p, as.map V.ref, rfl, ?_⟩
    have rest : ∀ t2 H2, Ex H1 H2 → H2 t2 = some (.tup (as.map V.ref)) → (tSeq (tIfS (tOr (tNot (tB (tCB (rAll K) (tCons (tLc (iTup K (tVar 1)) (gName 2) tYes (tCB (rIsi K) (tCons (tVar 2) (tCons (tC (V.ref (He.ga K "Short"))) tNil))) (List.map (fun x => x.snd) [(Str.ofString "one", 2)])) tNil)))) (tNot (tB (tFc (sp_all_rising K) (fun cls d x H => E cls d H) (tCons (tVar 1) tNil))))) (fun x σ H => (fun cls d H' => E cls d H') (Value.ref (He.ga K "NoPiece")) none H) tNext) (tRet (tVar 1))) { nx := fun _ H' => Q .non H', rt := Q } [some (.ref p), some (.ref t2), none] H2 := fun t2 H2 X2 h2 => by
      have X02 := X1.trans X2
      have hA2 := hA.mono X02
      refine ⟨_, rfl, t2, rfl, ⟨_, sq_tup h2⟩, fun A nA => lc_on as V.ref L2.walk_tup (fun _ => some (.bl true)) (fun H' => Ex H2 H') (fun H' z e => ex_mut e nA) (.refl _) (by omega) (fun H' e => sq_tup (e _ _ h2)) (fun i x H3 acc N hx X3 hD la k => ?_) fun H3 X3 d3 => ?_⟩
      · obtain ⟨t, ht, hS⟩ := hA2.get hx
        have hS3 := hS.mono X3
        cases t with
        | «at» n =>
          unfold ShAt at hS3
          obtain ⟨dx, h1⟩ := hS3
          exact ⟨rfl, _, rfl, .ref x, .ref (He.ga K "Short"), _, _, true, rfl, .own _, ty_ins T.i_At T.c_At h1, T.kit_At_Short, acc, hD, la, k H3 X3 hD⟩
        | ov ps m s =>
          unfold ShAt at hS3
          obtain ⟨dx, kp, as', h1, _⟩ := hS3
          exact ⟨rfl, _, rfl, .ref x, .ref (He.ga K "Short"), _, _, true, rfl, .own _, ty_ins T.i_Over T.c_Over h1, T.kit_Over_Short, acc, hD, la, k H3 X3 hD⟩
      · have ef : as.filterMap (fun _ => some (V.bl true)) = (List.replicate as.length true).map V.bl := by
          rw [List.map_replicate, ← List.map_const', List.filterMap_eq_map']
        rw [ef] at d3
        refine ⟨A, _, rfl, sq_lst d3, ?_⟩
        rw [all_repT]
        refine ⟨true, rfl, iteF ?_⟩
        refine ⟨_, rfl, t2, as, ts, rfl, X3 _ _ h2, hA2.mono X3, hn, hok, hl, fun H4 X4 => ⟨_, rfl, ?_⟩⟩
        cases hr2 : risB ts with
        | true =>
          refine iteF ?_
          exact ⟨_, rfl, q hr2 t2 H4 (X02.trans (X3.trans X4)) ((X3.trans X4) _ _ h2)⟩
        | false => exact iteT (qe hr2 H4 (X02.trans (X3.trans X4)))
    rcases hp with h | h
    · exact .inl ⟨sq_lst (X1 _ _ h), fun t2 nt2 => rest t2 _ (ex_new nt2) upd_same⟩
    · exact .inr ⟨sq_tup (X1 _ _ h), rest p _ (.refl _) (X1 _ _ h)⟩
theorem ok_shorts_in {P : Program} {w : World} {K : PySem.W.Frag} {mg : Str → Option Value} {base : Heap} (T : Env K mg) : Fc P w K mg base 61 (He.ga K "shorts_in") [] (sp_shorts_in K ) := by
  obtain ⟨fd, D, F⟩ := fb_shorts_in T
  exact F.all (D.bindsN fun _ _ _ _ _ _ us hl => match us, hl with | [_], _ => rfl)
end
section
def sp_At_moments (K : PySem.W.Frag) : Sp := fun vs H Q _ => ∃ a n, vs = [.ref a] ∧ AtAt K H a n ∧ ∀ p, H p = none → Q (.ref p) (upd H p (.lst [.int (n : Nat)]))
theorem fb_At_moments {P : Program} {w : World} {K : PySem.W.Frag} {mg : Str → Option Value} {base : Heap} (T : Env K mg) : ∃ fd, FunD K "moments" "At.moments" (defArgs s_At_moments) (defBody s_At_moments) (defScope s_At_moments) [] [] (He.ma K (He.ga K "At") "moments") fd ∧ Fb P w K mg base 1 (He.ma K (He.ga K "At") "moments") fd ["self"] (sp_At_moments K) := by
  obtain ⟨fd, F⟩ := T.f_At_moments
  refine ⟨fd, F, fb_of F sc_At_moments (fun vs H Q E h => ?_) (fun cdv A outer s H vs Q E hr h => ?_)⟩
  · obtain ⟨a, n, rfl, _⟩ := h
    rfl
  · obtain ⟨a, n, rfl, ⟨dx, ha⟩, q⟩ := h
    refine ⟨_, (pss_one (ps_ret (pe_lst (pa_cons (pe_fld (pv 0) (by rfl)) pa_nil)))), ?_⟩
    exact ⟨_, rfl, a, _, dx, _, _, rfl, ha, T.c_At, T.a_At_moment, rfl, by show 1 ≤ sizeLine; decide, q⟩
theorem ok_At_moments {P : Program} {w : World} {K : PySem.W.Frag} {mg : Str → Option Value} {base : Heap} (T : Env K mg) : Fc P w K mg base 1 (He.ma K (He.ga K "At") "moments") [] (sp_At_moments K ) := by
  obtain ⟨fd, D, F⟩ := fb_At_moments T
  exact F.all (D.bindsN fun _ _ _ _ _ _ us hl => match us, hl with | [_], _ => rfl)
end
section
def sp_row_moments (K : PySem.W.Frag) (d : Nat) : Sp := fun vs H Q _ => ∃ (p : Addr) (as : List Addr) (ts : List Tr), vs = [.ref p] ∧ H p = some (.tup (as.map V.ref)) ∧ ShsAt K H ts as ∧ nestL ts ≤ d ∧ okL_ ts ∧ (momsL ts).length ≤ 1440 ∧ ∀ t H', Ex H H' → H t = none → H' t = some (.lst (natV (momsL ts))) → Q (.ref t) H'
theorem fb_row_moments {P : Program} {w : World} {K : PySem.W.Frag} {mg : Str → Option Value} {base : Heap} (T : Env K mg) {d L : Nat} (hL : 40 ≤ L) (r_Over_moments : Fc P w K mg base L (He.ma K (He.ga K "Over") "moments") [] (sp_Over_moments K d)) : ∃ fd, FunD K "row_moments" "row_moments" (defArgs s_row_moments) (defBody s_row_moments) (defScope s_row_moments) [] [] (He.ga K "row_moments") fd ∧ Fb P w K mg base (L + 1) (He.ga K "row_moments") fd ["parts"] (sp_row_moments K (d)) := by
  obtain ⟨fd, F⟩ := T.f_row_moments
  refine ⟨fd, F, fb_of F sc_row_moments (fun vs H Q E h => ?_) (fun cdv A outer s H vs Q E hr h => ?_)⟩
  · obtain ⟨p, as, ts, rfl, _⟩ := h
    rfl
  · obtain ⟨p, as, ts, rfl, hp, hA, hn, hok, hl, q⟩ := h
    refine ⟨_, (pss_cons (ps_set (i := 1) sc_row_moments.nd rfl (Or.inl rfl) (pe_lst pa_nil))
      (pss_cons (ps_for (passes_of rfl) rfl (pi_tup (pv 0)) (pg_name (i := 2) sc_row_moments.nd rfl (Or.inl rfl))
      (pss_one (ps_expr (pe_bm PySem.F.plainAttrs_list PySem.F.slot_list_extend PySem.F.type_list_extend mt_extend (pv 1) (pa_cons (pe_orE (c_meth0 (pv 2) T.c_At T.m_At_moments (ok_At_moments T) (hr.mono (by omega)) takes0) (c_meth0 (pv 2) T.c_Over T.m_Over_moments r_Over_moments (hr.mono (by omega)) takes0)) pa_nil)))))
      (pss_one (ps_ret (pv 1))))), ?_⟩
    refine ⟨by show 0 ≤ sizeLine; decide, fun f nf => ?_⟩
    have X0 := ex_new (o := .lst []) nf
    have hl1 := hA.len
    have pf : p ≠ f := ne_of_none hp nf
    refine ⟨_, rfl, p, rfl, ⟨_, sq_tup (X0 _ _ hp)⟩, for_on as V.ref L2.walk_tup (fun i σ H' => Oth f H H' ∧ ∃ v2, σ = [some (.ref p), some (.ref f), v2] ∧ H' f = some (.lst (natV (momsL (ts.take i))))) ⟨ex_oth X0, _, rfl, upd_same⟩ (fun i σ H' z => sq_tup (z.1 _ _ pf hp)) ?_ ?_⟩
    · rintro i a σ H2 hx ⟨O2, v2, rfl, hf⟩
      obtain ⟨t, ht, hS⟩ := hA.get hx
      have htm := List.mem_of_getElem? ht
      have X2 : Ex H H2 := fun b o e => O2 b o (ne_of_none e nf) e
      have eT := momsL_take ht
      have bT := momsL_take_len ts (i + 1)
      rw [eT, List.length_append] at bT
      have hS2 := hS.mono X2
      have fin : ∀ (u : Addr) (H3 : Hp), Ex H2 H3 → H3 u = some (.lst (natV t.moms)) → rExtend (.ref f) [.ref u] H3 (fun _ H' => Oth f H H' ∧ ∃ v2', [some (V.ref p), some (V.ref f), some (V.ref a)] = [some (.ref p), some (.ref f), v2'] ∧ H' f = some (.lst (natV (momsL (ts.take (i + 1)))))) := fun u H3 X3 hu => by
        refine ⟨f, u, _, _, rfl, rfl, X3 _ _ hf, hu, sz_le (by rw [natV_len, natV_len]; omega), (O2.trans (ex_oth X3)).upd, _, rfl, ?_⟩
        rw [upd_same, eT]
        unfold natV
        rw [List.map_append]
      refine ⟨_, rfl, .inl ⟨rfl, _, sq_lst hf⟩, ?_⟩
      cases t with
      | «at» n =>
        unfold ShAt at hS2
        obtain ⟨dx, h2⟩ := id hS2
        exact .inl ⟨_, rfl, a, dx, _, rfl, h2, rfl, a, n, rfl, hS2, fun u nu => fin u _ (ex_new nu) (by rw [upd_same]; unfold Tr.moms; rfl)⟩
      | ov ps m s =>
        obtain ⟨dx, kp, as', h2, _⟩ := (by unfold ShAt at hS2; exact hS2 : ∃ dx kp as, H2 a = some (.ins (OverC K) dx (overF kp m s)) ∧ H2 kp = some (.tup (as.map V.ref)) ∧ ShsAt K H2 ps as)
        exact .inr ⟨_, rfl, a, dx, _, rfl, h2, rfl, a, ps, m, s, rfl, hS2, Nat.le_trans (nestL_mem htm) hn, okL_mem hok htm, fun u H3 X3 nu hu => fin u H3 X3 hu⟩
    · rintro σ H2 ⟨O2, v2, rfl, hf⟩
      rw [List.take_of_length_le (by omega)] at hf
      exact ⟨_, rfl, q f H2 (fun b o e => O2 b o (ne_of_none e nf) e) nf hf⟩
theorem ok_row_moments {P : Program} {w : World} {K : PySem.W.Frag} {mg : Str → Option Value} {base : Heap} (T : Env K mg) {d L : Nat} (hL : 40 ≤ L) (r_Over_moments : Fc P w K mg base L (He.ma K (He.ga K "Over") "moments") [] (sp_Over_moments K d)) : Fc P w K mg base (L + 1) (He.ga K "row_moments") [] (sp_row_moments K (d)) := by
  obtain ⟨fd, D, F⟩ := fb_row_moments T hL r_Over_moments
  exact F.all (D.bindsN fun _ _ _ _ _ _ us hl => match us, hl with | [_], _ => rfl)
end
section
def sp_At_means_many (K : PySem.W.Frag) : Sp := fun vs H Q _ => ∃ a n, vs = [.ref a] ∧ AtAt K H a n ∧ Q (.int 1) H
theorem fb_At_means_many {P : Program} {w : World} {K : PySem.W.Frag} {mg : Str → Option Value} {base : Heap} (T : Env K mg) : ∃ fd, FunD K "means_many" "At.means_many" (defArgs s_At_means_many) (defBody s_At_means_many) (defScope s_At_means_many) [] [] (He.ma K (He.ga K "At") "means_many") fd ∧ Fb P w K mg base 1 (He.ma K (He.ga K "At") "means_many") fd ["self"] (sp_At_means_many K) := by
  obtain ⟨fd, F⟩ := T.f_At_means_many
  refine ⟨fd, F, fb_of F sc_At_means_many (fun vs H Q E h => ?_) (fun cdv A outer s H vs Q E hr h => ?_)⟩
  · obtain ⟨a, n, rfl, _⟩ := h
    rfl
  · obtain ⟨a, n, rfl, ⟨dx, ha⟩, q⟩ := h
    refine ⟨_, (pss_one (ps_ret pe_int)), ?_⟩
    exact q
theorem ok_At_means_many {P : Program} {w : World} {K : PySem.W.Frag} {mg : Str → Option Value} {base : Heap} (T : Env K mg) : Fc P w K mg base 1 (He.ma K (He.ga K "At") "means_many") [] (sp_At_means_many K ) := by
  obtain ⟨fd, D, F⟩ := fb_At_means_many T
  exact F.all (D.bindsN fun _ _ _ _ _ _ us hl => match us, hl with | [_], _ => rfl)
end
section
theorem range_opt {α : Type} (ts : List α) (f : α → V) : (List.range ts.length).filterMap (fun i => (ts[i]?).map f) = ts.map f := by
  induction ts with
  | nil => rfl
  | cons t r ih =>
    rw [List.length_cons, List.range_succ_eq_map, List.filterMap_cons, List.filterMap_map]
    show f t :: List.filterMap (fun i => (r[i]?).map f) (List.range r.length) = f t :: r.map f
    rw [ih]
theorem sum_many : ∀ ts : List Tr, (ts.map fun t => ((t.moms.length : Nat) : Int)).sum = (((momsL ts).length : Nat) : Int)
  | [] => rfl
  | t :: r => by
    rw [List.map_cons, List.sum_cons, sum_many r]
    have e : momsL (t :: r) = t.moms ++ momsL r := by simp [momsL]
    rw [e, List.length_append]
    omega
def sp_row_many (K : PySem.W.Frag) (d : Nat) : Sp := fun vs H Q _ => ∃ (p : Addr) (as : List Addr) (ts : List Tr), vs = [.ref p] ∧ H p = some (.tup (as.map V.ref)) ∧ ShsAt K H ts as ∧ nestL ts ≤ d ∧ okL_ ts ∧ ts.length ≤ 20000 ∧ ∀ H', Ex H H' → Q (.int (((momsL ts).length : Nat) : Int)) H'
theorem fb_row_many {P : Program} {w : World} {K : PySem.W.Frag} {mg : Str → Option Value} {base : Heap} (T : Env K mg) {d L : Nat} (hL : 40 ≤ L) (r_Over_means_many : Fc P w K mg base L (He.ma K (He.ga K "Over") "means_many") [] (sp_Over_means_many K d)) : ∃ fd, FunD K "row_many" "row_many" (defArgs s_row_many) (defBody s_row_many) (defScope s_row_many) [] [] (He.ga K "row_many") fd ∧ Fb P w K mg base (L + 1) (He.ga K "row_many") fd ["parts"] (sp_row_many K (d)) := by
  obtain ⟨fd, F⟩ := T.f_row_many
  refine ⟨fd, F, fb_of F sc_row_many (fun vs H Q E h => ?_) (fun cdv A outer s H vs Q E hr h => ?_)⟩
  · obtain ⟨p, as, ts, rfl, _⟩ := h
    rfl
  · obtain ⟨p, as, ts, rfl, hp, hA, hn, hok, hl, q⟩ := h
    refine ⟨_, (pss_one (ps_ret (pe_callB (cr_sum rfl) (by rfl) T.n_sum (by decide +kernel) (pa_cons (pe_lc (own := [("one", 1)]) (by rfl) sc_row_many.nd (pi_tup (pv 0)) (blkOk_by (own := [("one", 1)]) (N := ["parts", "one"]) (sc := defScope s_row_many) (by decide +kernel)) (fun _ _ _ _ _ => (pg_name (i := 1) sc_row_many.nd rfl (Or.inl rfl))) (fun _ _ _ _ _ => pts_nil) (fun _ _ _ _ _ => (pe_orE (c_meth0 (pv 1) T.c_At T.m_At_means_many (ok_At_means_many T) (hr.mono (by omega)) takes0) (c_meth0 (pv 1) T.c_Over T.m_Over_means_many r_Over_means_many (hr.mono (by omega)) takes0)))) pa_nil)))), ?_⟩
    have hl1 := hA.len
    have hl2 := len_moms hok
    refine ⟨_, rfl, p, rfl, ⟨_, sq_tup hp⟩, fun A nA => lc_fm L2.walk_tup (fun i => (ts[i]?).map fun t => .int ((t.moms.length : Nat) : Int)) (fun H' => Ex H H') (fun H' z e => ex_mut e nA) (.refl _) (by rw [List.length_map]; omega) (fun H' e => sq_tup (e _ _ hp)) (fun i x H2 H3 acc N hi e hD la y k => ?_) fun H3 X3 d3 => ?_⟩
    · obtain ⟨rfl, y⟩ := y
      rw [List.getElem?_map] at y
      obtain ⟨a, ha, rfl⟩ := Option.map_eq_some_iff.mp y
      obtain ⟨t, ht, hS⟩ := hA.get ha
      have htm := List.mem_of_getElem? ht
      have hS2 := hS.mono e
      have k2 := fun H4 (X4 : Ex H3 H4) => k H4 (e.trans X4) (X4 _ _ hD)
      rw [ht] at k2
      have ok := okL_mem hok htm
      cases t with
      | «at» n =>
        unfold ShAt at hS2
        obtain ⟨dx, h2⟩ := id hS2
        exact ⟨rfl, .inl ⟨_, rfl, a, dx, _, rfl, h2, rfl, a, n, rfl, hS2, acc, hD, la, k2 H3 (.refl _)⟩⟩
      | ov ps m s =>
        obtain ⟨dx, kp, as', h2, _⟩ := (by unfold ShAt at hS2; exact hS2 : ∃ dx kp as, H3 a = some (.ins (OverC K) dx (overF kp m s)) ∧ H3 kp = some (.tup (as.map V.ref)) ∧ ShsAt K H3 ps as)
        obtain ⟨_, _, _, _, o5', _, o7⟩ := ov_facts ok
        have o5 : ps.length ≤ 20000 := by omega
        refine ⟨rfl, .inr ⟨_, rfl, a, dx, _, rfl, h2, rfl, a, ps, m, s, rfl, hS2, Nat.le_trans (nestL_mem htm) hn, o7, o5, fun H4 X4 => ⟨acc, X4 _ _ hD, la, ?_⟩⟩⟩
        have k3 : N (upd H4 A (.lst (acc ++ [.int (((Tr.ov ps m s).moms.length : Nat) : Int)]))) := k2 H4 X4
        rw [show (Tr.ov ps m s).moms.length = m * (momsL ps).length from by unfold Tr.moms; exact overN_len _ _ _] at k3
        exact k3
    · rw [List.length_map, hl1, range_opt ts (fun t => V.int ((t.moms.length : Nat) : Int))] at d3
      have e1 : ts.map (fun t => V.int ((t.moms.length : Nat) : Int)) = (ts.map fun t => ((t.moms.length : Nat) : Int)).map V.int := by
        rw [List.map_map]
        rfl
      rw [e1] at d3
      refine ⟨A, _, rfl, sq_lst d3, ?_⟩
      rw [sum_many]
      exact q _ X3
theorem ok_row_many {P : Program} {w : World} {K : PySem.W.Frag} {mg : Str → Option Value} {base : Heap} (T : Env K mg) {d L : Nat} (hL : 40 ≤ L) (r_Over_means_many : Fc P w K mg base L (He.ma K (He.ga K "Over") "means_many") [] (sp_Over_means_many K d)) : Fc P w K mg base (L + 1) (He.ga K "row_many") [] (sp_row_many K (d)) := by
  obtain ⟨fd, D, F⟩ := fb_row_many T hL r_Over_means_many
  exact F.all (D.bindsN fun _ _ _ _ _ _ us hl => match us, hl with | [_], _ => rfl)
end
section
def rowT (ws : List (List Nat)) : List Nat := if ws = [] then [45] else TL.joinL [44, 32] ws
mutual
/-- a short as it is written -/
def Tr.txt : Tr → List Nat
  | .at n => Mo.shw n
  | .ov ps m s => [40] ++ rowT (txtL ps) ++ [41, 32, 120] ++ TL.numL m ++ [32, 43] ++ TL.numL s
def txtL : List Tr → List (List Nat)
  | [] => []
  | t :: ts => t.txt :: txtL ts
end
mutual
def Tr.fit : Tr → Prop
  | .at n => n < 10 ^ 255
  | .ov ps m s => m < 10 ^ 255 ∧ s < 10 ^ 255 ∧ fitL ps
def fitL : List Tr → Prop
  | [] => True
  | t :: ts => t.fit ∧ fitL ts
end
theorem txtL_map (ts : List Tr) : txtL ts = ts.map Tr.txt := by
  induction ts with
  | nil => simp [txtL]
  | cons t r ih => simp [txtL, ih]
theorem fitL_mem {t : Tr} : ∀ {ts : List Tr}, fitL ts → t ∈ ts → t.fit
  | x :: r, h, hm => by
    unfold fitL at h
    rcases List.mem_cons.mp hm with rfl | hm
    · exact h.1
    · exact fitL_mem h.2 hm
theorem pcsL_mem {t : Tr} : ∀ {ts : List Tr}, t ∈ ts → t.pcs ≤ pcsL ts
  | x :: r, hm => by
    unfold pcsL
    rcases List.mem_cons.mp hm with rfl | hm
    · omega
    · have := pcsL_mem hm
      omega
theorem pcs_pos (t : Tr) : 1 ≤ t.pcs := by
  cases t <;> unfold Tr.pcs <;> omega
theorem len_pcsL (ts : List Tr) : ts.length ≤ pcsL ts := by
  induction ts with
  | nil => exact Nat.zero_le _
  | cons t r ih =>
    have := pcs_pos t
    unfold pcsL
    rw [List.length_cons]
    omega
mutual
theorem txt_len : ∀ {t : Tr}, t.fit → t.txt.length + 2 ≤ 600 * t.pcs
  | .at n, h => by
    unfold Tr.fit at h
    have := Mo.shw_len (by decide) h
    unfold Tr.txt Tr.pcs
    omega
  | .ov ps m s, h => by
    unfold Tr.fit at h
    obtain ⟨h1, h2, h3⟩ := h
    have l1 := TL.numL_len (by decide) h1
    have l2 := TL.numL_len (by decide) h2
    have l3 := row_len h3
    have l4 : (rowT (txtL ps)).length ≤ 600 * pcsL ps + 1 := by
      unfold rowT
      split
      · show 1 ≤ _
        omega
      · omega
    unfold Tr.txt Tr.pcs
    simp only [List.length_append, List.length_cons, List.length_nil]
    omega
theorem row_len : ∀ {ts : List Tr}, fitL ts → (TL.joinL [44, 32] (txtL ts)).length ≤ 600 * pcsL ts
  | [], _ => by
    unfold txtL
    exact Nat.zero_le _
  | [t], h => by
    unfold fitL at h
    have := txt_len h.1
    have e : txtL [t] = [t.txt] := by simp [txtL]
    rw [e]
    show t.txt.length ≤ _
    have e2 : pcsL [t] = t.pcs := by simp [pcsL]
    omega
  | t :: x :: r, h => by
    unfold fitL at h
    have h1 := txt_len h.1
    have h2 := row_len h.2
    have e : txtL (t :: x :: r) = t.txt :: x.txt :: txtL r := by simp [txtL]
    have e3 : txtL (x :: r) = x.txt :: txtL r := by simp [txtL]
    rw [e3] at h2
    rw [e]
    show (t.txt ++ ([44, 32] ++ TL.joinL [44, 32] (x.txt :: txtL r))).length ≤ _
    have e2 : pcsL (t :: x :: r) = t.pcs + pcsL (x :: r) := by rw [pcsL]
    simp only [List.length_append, List.length_cons, List.length_nil]
    omega
end
theorem rowT_len {ts : List Tr} (h : fitL ts) : (rowT (txtL ts)).length ≤ 600 * pcsL ts + 1 := by
  have := row_len h
  unfold rowT
  split
  · show 1 ≤ _
    omega
  · omega
theorem sum_txt : ∀ {ts : List Tr}, fitL ts → ((txtL ts).map (·.length)).sum + 2 * ts.length ≤ 600 * pcsL ts
  | [], _ => by simp [txtL, pcsL]
  | t :: r, h => by
    unfold fitL at h
    have h1 := txt_len h.1
    have h2 := sum_txt h.2
    unfold txtL pcsL
    simp only [List.map_cons, List.sum_cons, List.length_cons]
    omega
mutual
theorem fit_of : ∀ {t : Tr}, t.ok → (∀ n ∈ t.moms, n < 10 ^ 80) → t.fit
  | .at n, _, h => by
    unfold Tr.fit
    unfold Tr.moms at h
    exact Nat.lt_trans (h n List.mem_cons_self) (by decide +kernel)
  | .ov ps m s, ho, h => by
    have hf := ov_facts ho
    unfold Tr.ok at ho
    obtain ⟨h1, h2, h3, h4, h5, h6, h7⟩ := ho
    unfold Tr.moms at h
    obtain ⟨n, hn⟩ : ∃ n, n ∈ momsL ps := ⟨_, headD_mem (momsL_ne h7 h1)⟩
    have hs := h (n + 1 * s) (mem_overN.mpr ⟨1, n, by omega, hn, rfl⟩)
    unfold Tr.fit
    refine ⟨Nat.lt_of_le_of_lt hf.2.2.1 (by decide +kernel), Nat.lt_trans (show s < 10 ^ 80 by omega) (by decide +kernel), fitL_of h7 fun k hk => ?_⟩
    have := h (k + 0 * s) (mem_overN.mpr ⟨0, k, by omega, hk, rfl⟩)
    omega
theorem fitL_of : ∀ {ts : List Tr}, okL_ ts → (∀ n ∈ momsL ts, n < 10 ^ 80) → fitL ts
  | [], _, _ => by
    unfold fitL
    trivial
  | t :: r, ho, h => by
    unfold okL_ at ho
    unfold momsL at h
    unfold fitL
    exact ⟨fit_of ho.1 fun n hn => h n (List.mem_append_left _ hn), fitL_of ho.2 fun n hn => h n (List.mem_append_right _ hn)⟩
end
def sp_Over_str (K : PySem.W.Frag) (d : Nat) : Sp := fun vs H Q _ => ∃ a ps m s, vs = [.ref a] ∧ ShAt K H (.ov ps m s) a ∧ (Tr.ov ps m s).nest ≤ d ∧ (Tr.ov ps m s).fit ∧ (Tr.ov ps m s).pcs ≤ 10000 ∧ ∀ H', Ex H H' → Q (.str (SX.S (Tr.ov ps m s).txt)) H'
end
section
def sp_At_str (K : PySem.W.Frag) : Sp := fun vs H Q _ => ∃ a n, vs = [.ref a] ∧ AtAt K H a n ∧ n < 10 ^ 255 ∧ ∀ H', Ex H H' → Q (.str (SX.S (Mo.shw n))) H'
theorem fb_At_str {P : Program} {w : World} {K : PySem.W.Frag} {mg : Str → Option Value} {base : Heap} (T : Env K mg) : ∃ fd, FunD K "__str__" "At.__str__" (defArgs s_At_str) (defBody s_At_str) (defScope s_At_str) [] [] (He.ma K (He.ga K "At") "__str__") fd ∧ Fb P w K mg base 6 (He.ma K (He.ga K "At") "__str__") fd ["self"] (sp_At_str K) := by
  obtain ⟨fd, F⟩ := T.f_At_str
  refine ⟨fd, F, fb_of F sc_At_str (fun vs H Q E h => ?_) (fun cdv A outer s H vs Q E hr h => ?_)⟩
  · obtain ⟨a, n, rfl, _⟩ := h
    rfl
  · obtain ⟨a, n, rfl, ⟨dx, ha⟩, hn, q⟩ := h
    refine ⟨_, (pss_one (ps_ret (pe_joined1 (pe_fmt (c_call (ok_show_moment T) (hr.mono (by decide)) T.g_show_moment T.k_show_moment takes0 (pa_cons (pe_fld (pv 0) (by rfl)) pa_nil)))))), ?_⟩
    have hl := Mo.shw_len (by decide) hn

    refine ⟨_, rfl, _, _, _, _, _, rfl, ha, T.c_At, T.a_At_moment, rfl, ?_⟩
    dsimp only [tNil]
    refine sm_good hn fun H1 X1 => ?_
    refine .inl ⟨_, rfl, sz_le (by rw [SX.S_len]; omega), q H1 X1⟩
theorem ok_At_str {P : Program} {w : World} {K : PySem.W.Frag} {mg : Str → Option Value} {base : Heap} (T : Env K mg) : Fc P w K mg base 6 (He.ma K (He.ga K "At") "__str__") [] (sp_At_str K ) := by
  obtain ⟨fd, D, F⟩ := fb_At_str T
  exact F.all (D.bindsN fun _ _ _ _ _ _ us hl => match us, hl with | [_], _ => rfl)
end
section
def sp_row_text (K : PySem.W.Frag) (d : Nat) : Sp := fun vs H Q _ => ∃ (p : Addr) (as : List Addr) (ts : List Tr), vs = [.ref p] ∧ H p = some (.tup (as.map V.ref)) ∧ ShsAt K H ts as ∧ nestL ts ≤ d ∧ fitL ts ∧ pcsL ts ≤ 10000 ∧ ∀ H', Ex H H' → Q (.str (SX.S (rowT (txtL ts)))) H'
theorem fb_row_text {P : Program} {w : World} {K : PySem.W.Frag} {mg : Str → Option Value} {base : Heap} (T : Env K mg) {d L : Nat} (hL : 40 ≤ L) (r_Over_str : Fc P w K mg base L (He.ma K (He.ga K "Over") "__str__") [] (sp_Over_str K d)) : ∃ fd, FunD K "row_text" "row_text" (defArgs s_row_text) (defBody s_row_text) (defScope s_row_text) [] [] (He.ga K "row_text") fd ∧ Fb P w K mg base (L + 3) (He.ga K "row_text") fd ["parts"] (sp_row_text K (d)) := by
  obtain ⟨fd, F⟩ := T.f_row_text
  refine ⟨fd, F, fb_of F sc_row_text (fun vs H Q E h => ?_) (fun cdv A outer s H vs Q E hr h => ?_)⟩
  · obtain ⟨p, as, ts, rfl, _⟩ := h
    rfl
  · obtain ⟨p, as, ts, rfl, hp, hA, hn, hf, hc, q⟩ := h
    refine ⟨_, (pss_cons (ps_if (pt_cmpR op_eq (pe_callB call_len (by rfl) T.n_len (by decide +kernel) (pa_cons (pv 0) pa_nil)) pe_int (nomark _))
      (pss_one (ps_ret (pe_k T.v_NO_PARTS)))
      pss_nil)
      (pss_one (ps_ret (pe_join pe_str (pe_lc (own := [("one", 1)]) (by rfl) sc_row_text.nd (pi_tup (pv 0)) (blkOk_by (own := [("one", 1)]) (N := ["parts", "one"]) (sc := defScope s_row_text) (by decide +kernel)) (fun _ _ _ _ _ => (pg_name (i := 1) sc_row_text.nd rfl (Or.inl rfl))) (fun _ _ _ _ _ => pts_nil) (fun _ _ _ _ _ => (pe_orE (pe_callTy (call_strO T.m_At_str (ok_At_str T) (hr.mono (by omega))) (by rfl) T.n_str (by decide +kernel) (pa_cons (pv 1) pa_nil)) (pe_callTy (call_strO T.m_Over_str r_Over_str (hr.mono (by omega))) (by rfl) T.n_str (by decide +kernel) (pa_cons (pv 1) pa_nil))))))))), ?_⟩
    have hl1 := hA.len
    have hl2 := len_pcsL ts
    refine ⟨_, rfl, _, _, rfl, (.inr ⟨_, ⟨(sq_tup hp), rfl⟩⟩), rfl, _, rfl, ?_⟩
    by_cases h0 : ts = []
    · refine ifP (by rw [List.length_map, hl1, h0]; rfl) ?_
      rw [h0] at q
      exact q H (.refl _)
    · refine ifN (by rw [List.length_map, hl1]; exact vint_ne (by have := List.length_pos_iff.mpr h0; omega)) ?_
      refine ⟨⟨_, rfl⟩, _, rfl, _, rfl, ⟨_, (sq_tup hp)⟩, fun A nA => lc_fm L2.walk_tup (fun i => (ts[i]?).map fun t => .str (SX.S t.txt)) (fun H' => Ex H H') (fun H' z e => ex_mut e nA) (.refl _) (by rw [List.length_map]; omega) (fun H' e => sq_tup (e _ _ hp)) (fun i x H2 H3 acc N hi e hD la y k => ?_) fun H3 X3 d3 => ?_⟩
      · obtain ⟨rfl, y⟩ := y
        rw [List.getElem?_map] at y
        obtain ⟨b, hb, rfl⟩ := Option.map_eq_some_iff.mp y
        obtain ⟨t, ht, hS⟩ := hA.get hb
        have htm := List.mem_of_getElem? ht
        have hS2 := hS.mono e
        have k2 := fun H4 (X4 : Ex H3 H4) => k H4 (e.trans X4) (X4 _ _ hD)
        rw [ht] at k2
        have ft := fitL_mem hf htm
        have pt := pcsL_mem htm
        have nt := nestL_mem htm
        cases t with
        | «at» n =>
          unfold ShAt at hS2
          obtain ⟨dy, h2⟩ := id hS2
          unfold Tr.fit at ft
          refine ⟨rfl, .inl ⟨_, rfl, _, dy, _, rfl, h2, b, n, rfl, hS2, ft, fun H4 X4 => ⟨trivial, acc, X4 _ _ hD, la, ?_⟩⟩⟩
          unfold Tr.txt at k2
          exact k2 H4 X4
        | ov ps' m' s' =>
          obtain ⟨dy, kp', as', h2, _⟩ := (by unfold ShAt at hS2; exact hS2 : ∃ dx kp as, H3 b = some (.ins (OverC K) dx (overF kp m' s')) ∧ H3 kp = some (.tup (as.map V.ref)) ∧ ShsAt K H3 ps' as)
          exact ⟨rfl, .inr ⟨_, rfl, b, dy, _, rfl, h2, b, ps', m', s', rfl, hS2, by omega, ft, by omega, fun H4 X4 => ⟨trivial, acc, X4 _ _ hD, la, k2 H4 X4⟩⟩⟩
      · rw [List.length_map, hl1, range_opt ts (fun t => V.str (SX.S t.txt))] at d3
        have e1 : ts.map (fun t => V.str (SX.S t.txt)) = ((txtL ts).map SX.S).map V.str := by
          rw [txtL_map, List.map_map, List.map_map]
          rfl
        rw [e1] at d3
        have sl := sum_txt hf
        refine ⟨_, A, _, rfl, rfl, .inl (sq_lst d3), ?_, ?_⟩
        · rw [SX.lens, List.length_map, txtL_map, List.length_map]
          rw [txtL_map] at sl
          have z : (Str.ofString ", ").length = 2 := rfl
          rw [z]
          omega
        · rw [show Str.ofString ", " = SX.S [44, 32] from rfl, SX.join_S]
          have e2 : rowT (txtL ts) = TL.joinL [44, 32] (txtL ts) := if_neg (by rw [txtL_map]; intro z; exact h0 (List.map_eq_nil_iff.mp z))
          rw [e2] at q
          exact q H3 X3
theorem ok_row_text {P : Program} {w : World} {K : PySem.W.Frag} {mg : Str → Option Value} {base : Heap} (T : Env K mg) {d L : Nat} (hL : 40 ≤ L) (r_Over_str : Fc P w K mg base L (He.ma K (He.ga K "Over") "__str__") [] (sp_Over_str K d)) : Fc P w K mg base (L + 3) (He.ga K "row_text") [] (sp_row_text K (d)) := by
  obtain ⟨fd, D, F⟩ := fb_row_text T hL r_Over_str
  exact F.all (D.bindsN fun _ _ _ _ _ _ us hl => match us, hl with | [_], _ => rfl)
end
section
def sp_At_nested (K : PySem.W.Frag) : Sp := fun vs H Q _ => ∃ a n, vs = [.ref a] ∧ AtAt K H a n ∧ Q (.int 0) H
theorem fb_At_nested {P : Program} {w : World} {K : PySem.W.Frag} {mg : Str → Option Value} {base : Heap} (T : Env K mg) : ∃ fd, FunD K "nested" "At.nested" (defArgs s_At_nested) (defBody s_At_nested) (defScope s_At_nested) [] [] (He.ma K (He.ga K "At") "nested") fd ∧ Fb P w K mg base 1 (He.ma K (He.ga K "At") "nested") fd ["self"] (sp_At_nested K) := by
  obtain ⟨fd, F⟩ := T.f_At_nested
  refine ⟨fd, F, fb_of F sc_At_nested (fun vs H Q E h => ?_) (fun cdv A outer s H vs Q E hr h => ?_)⟩
  · obtain ⟨a, n, rfl, _⟩ := h
    rfl
  · obtain ⟨a, n, rfl, ⟨dx, ha⟩, q⟩ := h
    refine ⟨_, (pss_one (ps_ret pe_int)), ?_⟩
    exact q
theorem ok_At_nested {P : Program} {w : World} {K : PySem.W.Frag} {mg : Str → Option Value} {base : Heap} (T : Env K mg) : Fc P w K mg base 1 (He.ma K (He.ga K "At") "nested") [] (sp_At_nested K ) := by
  obtain ⟨fd, D, F⟩ := fb_At_nested T
  exact F.all (D.bindsN fun _ _ _ _ _ _ us hl => match us, hl with | [_], _ => rfl)
end
section
theorem fb_Over_means_many {P : Program} {w : World} {K : PySem.W.Frag} {mg : Str → Option Value} {base : Heap} (T : Env K mg) {d L : Nat} (hL : 40 ≤ L) (r_Over_means_many : Fc P w K mg base L (He.ma K (He.ga K "Over") "means_many") [] (sp_Over_means_many K d)) : ∃ fd, FunD K "means_many" "Over.means_many" (defArgs s_Over_means_many) (defBody s_Over_means_many) (defScope s_Over_means_many) [] [] (He.ma K (He.ga K "Over") "means_many") fd ∧ Fb P w K mg base (L + 2) (He.ma K (He.ga K "Over") "means_many") fd ["self"] (sp_Over_means_many K (d + 1)) := by
  obtain ⟨fd, F⟩ := T.f_Over_means_many
  refine ⟨fd, F, fb_of F sc_Over_means_many (fun vs H Q E h => ?_) (fun cdv A outer s H vs Q E hr h => ?_)⟩
  · obtain ⟨a, ps, m, s, rfl, _⟩ := h
    rfl
  · obtain ⟨a, ps, m, s_, rfl, hO, hn, hok, hl, q⟩ := h
    refine ⟨_, (pss_one (ps_ret (pe_op op_mul (pe_fld (pv 0) (by rfl)) (c_call (ok_row_many T hL r_Over_means_many) (hr.mono (by omega)) T.g_row_many T.k_row_many takes0 (pa_cons (pe_fld (pv 0) (by rfl)) pa_nil))))), ?_⟩
    have hfew := momsL_few hok
    have hnL := ov_nest hn
    obtain ⟨dx, kp, as, ha, hk, hA⟩ := (by unfold ShAt at hO; exact hO : ∃ dx kp as, H a = some (.ins (OverC K) dx (overF kp m s_)) ∧ H kp = some (.tup (as.map V.ref)) ∧ ShsAt K H ps as)
    refine ⟨_, rfl, a, _, dx, _, _, rfl, ha, T.c_Over, T.a_Over_many, rfl, _, rfl, a, _, dx, _, _, rfl, ha, T.c_Over, T.a_Over_kept, rfl, kp, as, ps, rfl, hk, hA, hnL, hok, hl, fun H1 X1 => ⟨_, _, rfl, rfl, .inr ⟨by omega, by omega⟩, ?_⟩⟩
    have e : ((m : Nat) : Int) * (((momsL ps).length : Nat) : Int) = ((m * (momsL ps).length : Nat) : Int) := by simp
    show Q (.int (((m : Nat) : Int) * (((momsL ps).length : Nat) : Int))) H1
    rw [e]
    exact q H1 X1
theorem ok_Over_means_many {P : Program} {w : World} {K : PySem.W.Frag} {mg : Str → Option Value} {base : Heap} (T : Env K mg) {d L : Nat} (hL : 40 ≤ L) (r_Over_means_many : Fc P w K mg base L (He.ma K (He.ga K "Over") "means_many") [] (sp_Over_means_many K d)) : Fc P w K mg base (L + 2) (He.ma K (He.ga K "Over") "means_many") [] (sp_Over_means_many K (d + 1)) := by
  obtain ⟨fd, D, F⟩ := fb_Over_means_many T hL r_Over_means_many
  exact F.all (D.bindsN fun _ _ _ _ _ _ us hl => match us, hl with | [_], _ => rfl)
theorem all_Over_means_many {P : Program} {w : World} {K : PySem.W.Frag} {mg : Str → Option Value} {base : Heap} (T : Env K mg) : ∀ d, Fc P w K mg base (40 + 2 * d) (He.ma K (He.ga K "Over") "means_many") [] (sp_Over_means_many K d)
  | 0 => fc_no fun vs H Q E h => by
    obtain ⟨a, ps, m, s, _, _, h, _⟩ := h
    unfold Tr.nest at h
    omega
  | d + 1 => ok_Over_means_many T (Nat.le_add_right 40 _) (all_Over_means_many T d)
end
section
theorem fb_Over_nested {P : Program} {w : World} {K : PySem.W.Frag} {mg : Str → Option Value} {base : Heap} (T : Env K mg) {d L : Nat} (hL : 40 ≤ L) (r_Over_nested : Fc P w K mg base L (He.ma K (He.ga K "Over") "nested") [] (sp_Over_nested K d)) : ∃ fd, FunD K "nested" "Over.nested" (defArgs s_Over_nested) (defBody s_Over_nested) (defScope s_Over_nested) [] [] (He.ma K (He.ga K "Over") "nested") fd ∧ Fb P w K mg base (L + 1) (He.ma K (He.ga K "Over") "nested") fd ["self"] (sp_Over_nested K (d + 1)) := by
  obtain ⟨fd, F⟩ := T.f_Over_nested
  refine ⟨fd, F, fb_of F sc_Over_nested (fun vs H Q E h => ?_) (fun cdv A outer s H vs Q E hr h => ?_)⟩
  · obtain ⟨a, ps, m, s, rfl, _⟩ := h
    rfl
  · obtain ⟨a, ps, m, s_, rfl, hO, hn, h0, hok, hl, q⟩ := h
    refine ⟨_, (pss_one (ps_ret (pe_op op_add pe_int (pe_callB (cr_max rfl) (by rfl) T.n_max (by decide +kernel) (pa_cons (pe_lc (own := [("one", 1)]) (by rfl) sc_Over_nested.nd (pi_tup (pe_fld (pv 0) (by rfl))) (blkOk_by (own := [("one", 1)]) (N := ["self", "one"]) (sc := defScope s_Over_nested) (by decide +kernel)) (fun _ _ _ _ _ => (pg_name (i := 1) sc_Over_nested.nd rfl (Or.inl rfl))) (fun _ _ _ _ _ => pts_nil) (fun _ _ _ _ _ => (pe_orE (c_meth0 (pv 1) T.c_At T.m_At_nested (ok_At_nested T) (hr.mono (by omega)) takes0) (c_meth0 (pv 1) T.c_Over T.m_Over_nested r_Over_nested (hr.mono (by omega)) takes0)))) pa_nil))))), ?_⟩
    have hnL := ov_nest hn
    obtain ⟨dx, kp, as, ha, hk, hA⟩ := (by unfold ShAt at hO; exact hO : ∃ dx kp as, H a = some (.ins (OverC K) dx (overF kp m s_)) ∧ H kp = some (.tup (as.map V.ref)) ∧ ShsAt K H ps as)
    have hl1 := hA.len
    have hl2 := len_moms hok
    refine ⟨_, rfl, a, _, dx, _, _, rfl, ha, T.c_Over, T.a_Over_kept, rfl, kp, rfl, ⟨_, sq_tup hk⟩, fun A nA => lc_fm L2.walk_tup (fun i => (ps[i]?).map fun t => .int ((t.nest : Nat) : Int)) (fun H' => Ex H H') (fun H' z e => ex_mut e nA) (.refl _) (by rw [List.length_map]; omega) (fun H' e => sq_tup (e _ _ hk)) (fun i x H2 H3 acc N hi e hD la y k => ?_) fun H3 X3 d3 => ?_⟩
    · obtain ⟨rfl, y⟩ := y
      rw [List.getElem?_map] at y
      obtain ⟨b, hb, rfl⟩ := Option.map_eq_some_iff.mp y
      obtain ⟨t, ht, hS⟩ := hA.get hb
      have htm := List.mem_of_getElem? ht
      have hS2 := hS.mono e
      have k2 := fun H4 (X4 : Ex H3 H4) => k H4 (e.trans X4) (X4 _ _ hD)
      rw [ht] at k2
      have ok := okL_mem hok htm
      cases t with
      | «at» n =>
        unfold ShAt at hS2
        obtain ⟨dy, h2⟩ := id hS2
        exact ⟨rfl, .inl ⟨_, rfl, b, dy, _, rfl, h2, rfl, b, n, rfl, hS2, acc, hD, la, k2 H3 (.refl _)⟩⟩
      | ov ps' m' s' =>
        obtain ⟨dy, kp', as', h2, _⟩ := (by unfold ShAt at hS2; exact hS2 : ∃ dx kp as, H3 b = some (.ins (OverC K) dx (overF kp m' s')) ∧ H3 kp = some (.tup (as.map V.ref)) ∧ ShsAt K H3 ps' as)
        obtain ⟨o1, _, _, _, o5', _, o7⟩ := ov_facts ok
        have o5 : ps'.length ≤ 20000 := by omega
        exact ⟨rfl, .inr ⟨_, rfl, b, dy, _, rfl, h2, rfl, b, ps', m', s', rfl, hS2, Nat.le_trans (nestL_mem htm) hnL, o1, o7, o5, fun H4 X4 => ⟨acc, X4 _ _ hD, la, k2 H4 X4⟩⟩⟩
    · rw [List.length_map, hl1, range_opt ps (fun t => V.int ((t.nest : Nat) : Int))] at d3
      have e1 : ps.map (fun t => V.int ((t.nest : Nat) : Int)) = (ps.map fun t => ((t.nest : Nat) : Int)).map V.int := by
        rw [List.map_map]
        rfl
      rw [e1] at d3
      refine ⟨A, _, rfl, sq_lst d3, by rw [List.length_map]; exact List.length_pos_iff.mpr h0, fun mx hm hall => ⟨_, _, rfl, rfl, ?_⟩⟩
      have em : mx = ((nestL ps : Nat) : Int) := by
        obtain ⟨t, ht, e⟩ := List.mem_map.mp hm
        have h1 := nestL_mem ht
        obtain ⟨t2, ht2, e2⟩ := nestL_max h0
        have h2 := hall _ (List.mem_map.mpr ⟨t2, ht2, rfl⟩)
        omega
      have e : (1 : Int) + mx = (((Tr.ov ps m s_).nest : Nat) : Int) := by
        unfold Tr.nest
        omega
      show Q (.int (1 + mx)) H3
      rw [e]
      exact q H3 X3
theorem ok_Over_nested {P : Program} {w : World} {K : PySem.W.Frag} {mg : Str → Option Value} {base : Heap} (T : Env K mg) {d L : Nat} (hL : 40 ≤ L) (r_Over_nested : Fc P w K mg base L (He.ma K (He.ga K "Over") "nested") [] (sp_Over_nested K d)) : Fc P w K mg base (L + 1) (He.ma K (He.ga K "Over") "nested") [] (sp_Over_nested K (d + 1)) := by
  obtain ⟨fd, D, F⟩ := fb_Over_nested T hL r_Over_nested
  exact F.all (D.bindsN fun _ _ _ _ _ _ us hl => match us, hl with | [_], _ => rfl)
theorem all_Over_nested {P : Program} {w : World} {K : PySem.W.Frag} {mg : Str → Option Value} {base : Heap} (T : Env K mg) : ∀ d, Fc P w K mg base (40 + 1 * d) (He.ma K (He.ga K "Over") "nested") [] (sp_Over_nested K d)
  | 0 => fc_no fun vs H Q E h => by
    obtain ⟨a, ps, m, s, _, _, h, _⟩ := h
    unfold Tr.nest at h
    omega
  | d + 1 => ok_Over_nested T (Nat.le_add_right 40 _) (all_Over_nested T d)
end
section
theorem isN_nat_of {n : Int} {x : V} (h0 : 0 ≤ n) (h : isN n x = true) : ∃ m : Nat, x = .int (m : Nat) ∧ n ≤ (m : Int) := by
  unfold isN at h
  obtain ⟨_, h2⟩ := Bool.and_eq_true_iff.mp h
  cases x with
  | int i =>
    have h3 : n ≤ i := of_decide_eq_true h2
    obtain ⟨m, rfl⟩ := Int.eq_ofNat_of_zero_le (Int.le_trans h0 h3)
    exact ⟨m, rfl, h3⟩
  | _ => cases h2
/-- whether an Over may be made -/
def ovB (ts : List Tr) (xm xs : V) : Bool := risB ts && (decide (ts ≠ []) && (isN 2 xm && (isN 1 xs && (match xm, xs with
  | .int m, .int s => decide (((momsL ts).getLastD 0 : Int) < s + ((momsL ts).headD 0 : Int)) && (decide (m * ((momsL ts).length : Int) ≤ 1440) && decide (nestL ts ≤ 7))
  | _, _ => false))))
def sp_Over_init (K : PySem.W.Frag) : Sp := fun vs H Q E => ∃ (a dx p : Addr) (as : List Addr) (ts : List Tr) (xm xs : V) (H0 : Hp), vs = [.ref a, .ref p, xm, xs] ∧ H a = some (.ins (OverC K) dx []) ∧ H0 a = none ∧ Ex H0 H ∧ SqA H0 p (as.map V.ref) ∧ ShsAt K H0 ts as ∧ nestL ts ≤ 8 ∧ okL_ ts ∧ ts.length ≤ 20000 ∧ ts.length ≤ 20000 ∧ Cl K H0 xm ∧ Cl K H0 xs ∧ (∀ m s : Nat, ovB ts xm xs = true → xm = .int (m : Nat) → xs = .int (s : Nat) → ∀ H', Oth a H H' → ShAt K H' (.ov ts m s) a → Q .non H') ∧ (ovB ts xm xs = false → ∀ H', Oth a H H' → E (.ref (He.ga K "NoPiece")) none H')
theorem fb_Over_init {P : Program} {w : World} {K : PySem.W.Frag} {mg : Str → Option Value} {base : Heap} (T : Env K mg) : ∃ fd, FunD K "__init__" "Over.__init__" (defArgs s_Over_init) (defBody s_Over_init) (defScope s_Over_init) [.int (2), .int (60)] [] (He.ma K (He.ga K "Over") "__init__") fd ∧ Fb P w K mg base 64 (He.ma K (He.ga K "Over") "__init__") fd ["self", "parts", "many", "step"] (sp_Over_init K) := by
  obtain ⟨fd, F⟩ := T.f_Over_init
  refine ⟨fd, F, fb_of F sc_Over_init (fun vs H Q E h => ?_) (fun cdv A outer s H vs Q E hr h => ?_)⟩
  · obtain ⟨a, dx, p, as, ts, xm, xs, H0, rfl, _⟩ := h
    rfl
  · obtain ⟨a, dx, p, as, ts, xm, xs, H0, rfl, ha, na0, X0, hp, hA, hn, hok, hlm, hlt, cm, cs, q, qe⟩ := h
    refine ⟨_, (pss_cons (ps_fld (pv 0) (c_call (ok_shorts_in T) (hr.mono (by decide)) T.g_shorts_in T.k_shorts_in (takes_of rfl rfl rfl rfl) (pa_cons (pv 1) pa_nil)) rfl)
      (pss_cons (ps_if (PW.pt (pw_or (pt_cmpR op_eq (pe_callB call_len (by rfl) T.n_len (by decide +kernel) (pa_cons (pe_fld (pv 0) (by rfl)) pa_nil)) pe_int (nomark _)) (pw_or (pt_not (pt_val (c_call (ok_is_number T) (hr.mono (by decide)) T.g_is_number T.k_is_number (takes_of rfl rfl rfl rfl) (pa_cons (pv 2) (pa_cons pe_int pa_nil))))) (pw_or1 (pt_not (pt_val (c_call (ok_is_number T) (hr.mono (by decide)) T.g_is_number T.k_is_number (takes_of rfl rfl rfl rfl) (pa_cons (pv 3) (pa_cons pe_int pa_nil)))))))))
      (pss_one (ps_raise rfl (takes_of rfl rfl rfl rfl) (pmk_own PySem.F.excBase_ValueError T.x_NoPiece.x T.g_NoPiece T.x_NoPiece.kp (raises_own T.x_NoPiece.sub T.x_NoPiece.ty) rfl)))
      pss_nil)
      (pss_cons (ps_if (pt_cmpR op_le (pv 3) (pe_op op_sub (pe_orE (c_meth0 (pe_ix ix_tup (pe_fld (pv 0) (by rfl)) (pe_un un_neg pe_int) (fun _ _ => rfl)) T.c_At T.m_At_ends (ok_At_ends T) (hr.mono (by decide)) (takes_of rfl rfl rfl rfl)) (c_meth0 (pe_ix ix_tup (pe_fld (pv 0) (by rfl)) (pe_un un_neg pe_int) (fun _ _ => rfl)) T.c_Over T.m_Over_ends (all_Over_ends T 9) (hr.mono (by decide)) (takes_of rfl rfl rfl rfl))) (pe_orE (c_meth0 (pe_ix ix_tup (pe_fld (pv 0) (by rfl)) pe_int (fun _ _ => rfl)) T.c_At T.m_At_begins (ok_At_begins T) (hr.mono (by decide)) (takes_of rfl rfl rfl rfl)) (c_meth0 (pe_ix ix_tup (pe_fld (pv 0) (by rfl)) pe_int (fun _ _ => rfl)) T.c_Over T.m_Over_begins (all_Over_begins T 9) (hr.mono (by decide)) (takes_of rfl rfl rfl rfl)))) (nomark _))
      (pss_one (ps_raise rfl (takes_of rfl rfl rfl rfl) (pmk_own PySem.F.excBase_ValueError T.x_NoPiece.x T.g_NoPiece T.x_NoPiece.kp (raises_own T.x_NoPiece.sub T.x_NoPiece.ty) rfl)))
      pss_nil)
      (pss_cons (ps_fld (pv 0) (pv 2) rfl)
      (pss_cons (ps_fld (pv 0) (pv 3) rfl)
      (pss_one (ps_if (PW.pt (pw_or (pt_cmpR op_gt (c_meth0 (pv 0) T.c_Over T.m_Over_means_many (all_Over_means_many T 9) (hr.mono (by decide)) (takes_of rfl rfl rfl rfl)) (pe_k T.v_MOST_MOMENTS) (nomark _)) (pw_or1 (pt_cmpR op_gt (c_meth0 (pv 0) T.c_Over T.m_Over_nested (all_Over_nested T 9) (hr.mono (by decide)) (takes_of rfl rfl rfl rfl)) (pe_k T.v_MOST_NESTED) (nomark _)))))
      (pss_one (ps_raise rfl (takes_of rfl rfl rfl rfl) (pmk_own PySem.F.excBase_ValueError T.x_NoPiece.x T.g_NoPiece T.x_NoPiece.kp (raises_own T.x_NoPiece.sub T.x_NoPiece.ty) rfl)))
      pss_nil))))))), ?_⟩
    have hl1 := hA.len
    have hpH : SqA H p (as.map V.ref) := hp.imp (fun h => X0 _ _ h) (fun h => X0 _ _ h)
    refine ⟨_, rfl, p, as, ts, rfl, hpH, hA.mono X0, by omega, hok, hlt, fun hr2 t H1 X1 ht => ?_, fun hr2 H1 X1 => qe (by unfold ovB; rw [hr2]; rfl) H1 (ex_oth X1)⟩
    refine ⟨_, rfl, a, _, dx, [], rfl, X1 _ _ ha, T.c_Over, T.a_Over_kept, by decide, ?_⟩
    have ta : t ≠ a := fun z => by rw [z, X1 _ _ ha] at ht; cases ht
    have O1 : Oth a H (upd H1 a (.ins (OverC K) dx (putF "kept" (.ref t) []))) := (ex_oth X1).upd
    have h2 : upd H1 a (.ins (OverC K) dx (putF "kept" (.ref t) [])) a = some (.ins (OverC K) dx [("kept", .ref t)]) := upd_same
    have ht2 : upd H1 a (.ins (OverC K) dx (putF "kept" (.ref t) [])) t = some (.tup (as.map V.ref)) := by rw [upd_ne ta]; exact ht
    generalize upd H1 a (.ins (OverC K) dx (putF "kept" (.ref t) [])) = H2 at O1 h2 ht2 ⊢
    have X02 : Ex H0 H2 := Oth.ex X0 na0 O1
    have hA2 : ShsAt K H2 ts as := hA.mono X02
    refine ⟨_, rfl, a, _, dx, _, _, rfl, h2, T.c_Over, T.a_Over_kept, rfl, _, as.length, rfl, .inr ⟨_, sq_tup ht2, (List.length_map _).symm⟩, rfl, _, rfl, ?_⟩
    by_cases h0 : ts = []
    · rw [decide_eq_true (show V.int ((as.length : Nat) : Int) = V.int 0 by rw [hl1, h0]; rfl)]
      refine iteT ?_
      refine qe ?_ H2 O1
      unfold ovB
      rw [hr2, decide_eq_false (fun z => z h0)]
      rfl
    have pos : 0 < ts.length := List.length_pos_iff.mpr h0
    rw [decide_eq_false (show ¬ V.int ((as.length : Nat) : Int) = V.int 0 from fun z => by injection z with z; omega)]
    refine iteF ?_
    refine ⟨_, rfl, xm, 2, rfl, cm.mono X02, _, rfl, ?_⟩
    cases hm2 : isN 2 xm with
    | false =>
      refine iteT ?_
      refine qe ?_ H2 O1
      unfold ovB
      rw [hr2, decide_eq_true h0, hm2]
      rfl
    | true =>
    refine iteF ?_
    refine ⟨_, rfl, xs, 1, rfl, cs.mono X02, _, rfl, ?_⟩
    cases hs2 : isN 1 xs with
    | false =>
      refine iteT ?_
      refine qe ?_ H2 O1
      unfold ovB
      rw [hr2, decide_eq_true h0, hm2, hs2]
      rfl
    | true =>
    refine iteF ?_
    obtain ⟨m, rfl, hm⟩ := isN_nat_of (by decide) hm2
    obtain ⟨s_, rfl, hs1⟩ := isN_nat_of (by decide) hs2
    have eB : ovB ts (.int (m : Nat)) (.int (s_ : Nat)) = (decide (((momsL ts).getLastD 0 : Int) < ((s_ : Nat) : Int) + ((momsL ts).headD 0 : Int)) && (decide (((m : Nat) : Int) * ((momsL ts).length : Int) ≤ 1440) && decide (nestL ts ≤ 7))) := by
      unfold ovB
      rw [hr2, decide_eq_true h0, hm2, hs2]
      rfl
    have nn := momsL_ne hok h0
    obtain ⟨zf, rf, tf, rt, eas, ets, hSf⟩ : ∃ z r t u, as = z :: r ∧ ts = t :: u ∧ ShAt K H2 t z := by
      cases ts with
      | nil => exact absurd rfl h0
      | cons t u =>
        unfold ShsAt at hA2
        obtain ⟨z, r, e, h1, _⟩ := hA2
        exact ⟨z, r, t, u, e, rfl, h1⟩
    have as0 : as ≠ [] := fun z => by rw [z] at eas; cases eas
    obtain ⟨zl, gl, aL⟩ := last_ref as0
    obtain ⟨tl, htl, hSl⟩ := hA2.get gl
    have ep : ts = ts.dropLast ++ [tl] := by
      have e := (List.dropLast_concat_getLast h0).symm
      have e2 : ts.getLast h0 = tl := by
        rw [List.getLast_eq_getElem]
        rw [hl1] at htl
        obtain ⟨_, e⟩ := List.getElem?_eq_some_iff.mp htl
        exact e
      rw [e2] at e
      exact e
    have eL : (momsL ts).getLastD 0 = tl.moms.getLastD 0 := by
      have o7 := hok
      rw [ep] at o7 ⊢
      exact momsL_last o7
    have eF : (momsL ts).headD 0 = tf.moms.headD 0 := by
      have o7 := hok
      rw [ets] at o7 ⊢
      exact momsL_head o7
    have mf : tf ∈ ts := by rw [ets]; exact List.mem_cons_self
    have ml := List.mem_of_getElem? htl
    have aF : atI (as.map V.ref) 0 = some (.ref zf) := by rw [eas]; exact atI_nat (j := 0) rfl
    refine ⟨_, rfl, ?_⟩
    refine sh_ends hSl (okL_mem hok ml) (Nat.le_trans (nestL_mem ml) (by omega)) (fun R r => ⟨_, rfl, a, _, dx, _, _, rfl, h2, T.c_Over, T.a_Over_kept, rfl, _, rfl, t, _, _, _, rfl, rfl, sq_tup ht2, aL, r⟩) ?_
    refine sh_begins hSf (okL_mem hok mf) (Nat.le_trans (nestL_mem mf) (by omega)) (fun R r => ⟨_, rfl, a, _, dx, _, _, rfl, h2, T.c_Over, T.a_Over_kept, rfl, t, _, _, _, rfl, rfl, sq_tup ht2, aF, r⟩) ?_
    refine ⟨_, _, rfl, rfl, _, _, rfl, rfl, _, rfl, ?_⟩
    rw [← eL, ← eF]
    by_cases c1 : ((momsL ts).getLastD 0 : Int) < ((s_ : Nat) : Int) + ((momsL ts).headD 0 : Int)
    · rw [decide_eq_false (show ¬ ((s_ : Nat) : Int) ≤ (((momsL ts).getLastD 0 : Nat) : Int) - (((momsL ts).headD 0 : Nat) : Int) by omega)]
      refine iteF ?_
      refine ⟨_, rfl, _, rfl, a, _, dx, _, rfl, h2, T.c_Over, T.a_Over_many, Nat.le_of_ble_eq_true rfl, ?_⟩
      refine ⟨_, rfl, _, rfl, a, _, dx, _, rfl, upd_same, T.c_Over, T.a_Over_step, Nat.le_of_ble_eq_true rfl, ?_⟩
      rw [upd_upd]
      rw [show putF "step" (V.int (s_ : Nat)) (putF "many" (V.int (m : Nat)) [("kept", V.ref t)]) = overF t m s_ from rfl]
      have O3 : Oth a H (upd H2 a (.ins (OverC K) dx (overF t m s_))) := O1.upd
      have X03 : Ex H0 (upd H2 a (.ins (OverC K) dx (overF t m s_))) := Oth.ex X0 na0 O3
      have h3 : upd H2 a (.ins (OverC K) dx (overF t m s_)) a = some (.ins (OverC K) dx (overF t m s_)) := upd_same
      have hO : ShAt K (upd H2 a (.ins (OverC K) dx (overF t m s_))) (.ov ts m s_) a := by
        unfold ShAt
        exact ⟨dx, t, as, h3, by rw [upd_ne ta]; exact ht2, hA.mono X03⟩
      generalize upd H2 a (.ins (OverC K) dx (overF t m s_)) = H3 at O3 X03 hO h3 ⊢
      have hn9 : (Tr.ov ts m s_).nest ≤ 9 := by
        unfold Tr.nest
        omega
      refine ⟨_, rfl, a, dx, _, rfl, h3, rfl, a, ts, m, s_, rfl, hO, hn9, hok, hlm, fun H4 X4 => ⟨_, _, rfl, rfl, _, rfl, ?_⟩⟩
      have em : ((m * (momsL ts).length : Nat) : Int) = ((m : Nat) : Int) * ((momsL ts).length : Int) := by simp
      by_cases c2 : ((m : Nat) : Int) * ((momsL ts).length : Int) ≤ 1440
      · rw [decide_eq_false (show ¬ (1440 : Int) < ((m * (momsL ts).length : Nat) : Int) by omega)]
        refine iteF ?_
        refine ⟨_, rfl, a, dx, _, rfl, X4 _ _ h3, rfl, a, ts, m, s_, rfl, hO.mono X4, hn9, h0, hok, hlm, fun H5 X5 => ⟨_, _, rfl, rfl, _, rfl, ?_⟩⟩
        have O5 := O3.trans (ex_oth (X4.trans X5))
        by_cases c3 : nestL ts ≤ 7
        · rw [decide_eq_false (show ¬ (8 : Int) < (((Tr.ov ts m s_).nest : Nat) : Int) by unfold Tr.nest; omega)]
          refine iteF ?_
          exact q m s_ (by rw [eB, decide_eq_true c1, decide_eq_true c2, decide_eq_true c3]; rfl) rfl rfl H5 O5 (hO.mono (X4.trans X5))
        · rw [decide_eq_true (show (8 : Int) < (((Tr.ov ts m s_).nest : Nat) : Int) by unfold Tr.nest; omega)]
          refine iteT ?_
          exact qe (by rw [eB, decide_eq_false c3, Bool.and_false, Bool.and_false]) H5 O5
      · rw [decide_eq_true (show (1440 : Int) < ((m * (momsL ts).length : Nat) : Int) by omega)]
        exact iteT (qe (by rw [eB, decide_eq_false c2, Bool.false_and, Bool.and_false]) H4 (O3.trans (ex_oth X4)))
    · rw [decide_eq_true (show ((s_ : Nat) : Int) ≤ (((momsL ts).getLastD 0 : Nat) : Int) - (((momsL ts).headD 0 : Nat) : Int) by omega)]
      refine iteT ?_
      exact qe (by rw [eB, decide_eq_false c1]; rfl) H2 O1
theorem ovB_of {ts : List Tr} {m s : Nat} (h : (Tr.ov ts m s).ok) (hn : (Tr.ov ts m s).nest ≤ 8) : ovB ts (.int (m : Nat)) (.int (s : Nat)) = true := by
  unfold Tr.ok at h
  obtain ⟨h1, h2, h3, h4, h5, h6, h7⟩ := h
  unfold Tr.nest at hn
  have e4 : ((m : Nat) : Int) * ((momsL ts).length : Int) ≤ 1440 := by
    have : ((m * (momsL ts).length : Nat) : Int) ≤ 1440 := by omega
    rw [Int.natCast_mul] at this
    exact this
  unfold ovB
  rw [ris_of h7 h6, decide_eq_true h1, show isN 2 (.int (m : Nat)) = true from isN_nat (m := 2) h2, show isN 1 (.int (s : Nat)) = true from isN_nat (m := 1) h3]
  show (decide _ && (decide _ && decide _)) = true
  rw [decide_eq_true (by omega), decide_eq_true e4, decide_eq_true (by omega)]
  rfl
theorem over_newT {K : PySem.W.Frag} {H : Hp} {x dx p : Addr} {as : List Addr} {ts : List Tr} {m s : Nat} {Q : VK} {E : XK} (nx : H x = none) (nd : H dx = none) (ne : dx ≠ x) (hp : SqA H p (as.map V.ref)) (hA : ShsAt K H ts as) (hok : (Tr.ov ts m s).ok) (hn : (Tr.ov ts m s).nest ≤ 8) (q : ∀ H', Ex H H' → ShAt K H' (.ov ts m s) x → Q .non H') :
    sp_Over_init K [.ref x, .ref p, .int (m : Nat), .int (s : Nat)] (upd (upd H dx (.own x)) x (.ins (OverC K) dx [])) Q E := by
  have X1 := ex_made (o1 := .own x) (o2 := .ins (OverC K) dx []) nx nd ne
  have hb := ovB_of hok hn
  obtain ⟨o1, m2, hm, hml, hl2, hpl, hokL⟩ := ov_facts hok
  unfold Tr.nest at hn
  refine ⟨x, dx, p, as, ts, _, _, H, rfl, upd_same, nx, X1, hp, hA, by omega, hokL, by omega, by omega, cl_int _, cl_int _, fun m' s' _ em es H' k d => ?_, fun z => by rw [hb] at z; cases z⟩
  have e1 : m = m' := by injection em with em; omega
  have e2 : s = s' := by injection es with es; omega
  subst e1 e2
  exact q H' (fun b o e => k b o (ne_of_none e nx) (X1 _ _ e)) d
theorem ok_Over_init {P : Program} {w : World} {K : PySem.W.Frag} {mg : Str → Option Value} {base : Heap} (T : Env K mg) : Fc P w K mg base 64 (He.ma K (He.ga K "Over") "__init__") [] (fun vs H Q E => vs.length = 4 + ([] : List Str).length ∧ sp_Over_init K  (pick [.inl 0, .inl 1, .inl 2, .inl 3] vs [.int (2), .int (60)]) H Q E) := by
  obtain ⟨fd, D, F⟩ := fb_Over_init T
  exact Fb.shape D F 4 [] (fun us its => pick [.inl 0, .inl 1, .inl 2, .inl 3] us its) (by decide) (fun r1 r2 => pick_vals _ r1 r2) (fun T kV doc pm an cdv ct us ws its h1 h2 h3 => match us, ws, its, h1, h2, h3 with | [_, _, _, _], [], [_, _], _, _, _ => ⟨_, rfl, rfl⟩)
end
section
theorem fb_Over_moments {P : Program} {w : World} {K : PySem.W.Frag} {mg : Str → Option Value} {base : Heap} (T : Env K mg) {d L : Nat} (hL : 40 ≤ L) (r_Over_moments : Fc P w K mg base L (He.ma K (He.ga K "Over") "moments") [] (sp_Over_moments K d)) : ∃ fd, FunD K "moments" "Over.moments" (defArgs s_Over_moments) (defBody s_Over_moments) (defScope s_Over_moments) [] [] (He.ma K (He.ga K "Over") "moments") fd ∧ Fb P w K mg base (L + 2) (He.ma K (He.ga K "Over") "moments") fd ["self"] (sp_Over_moments K (d + 1)) := by
  obtain ⟨fd, F⟩ := T.f_Over_moments
  refine ⟨fd, F, fb_of F sc_Over_moments (fun vs H Q E h => ?_) (fun cdv A outer s H vs Q E hr h => ?_)⟩
  · obtain ⟨a, ps, m, s, rfl, _⟩ := h
    rfl
  · obtain ⟨a, ps, m, s_, rfl, hO, hn, hok, q⟩ := h
    refine ⟨_, (pss_cons (ps_set (i := 1) sc_Over_moments.nd rfl (Or.inl rfl) (c_call (ok_row_moments T hL r_Over_moments) (hr.mono (by omega)) T.g_row_moments T.k_row_moments takes0 (pa_cons (pe_fld (pv 0) (by rfl)) pa_nil)))
      (pss_cons (ps_set (i := 2) sc_Over_moments.nd rfl (Or.inl rfl) (pe_lst pa_nil))
      (pss_cons (ps_for (passes_of rfl) rfl (pi_range1 (by rfl) T.n_range (pa_cons (pe_fld (pv 0) (by rfl)) pa_nil)) (pg_name (i := 3) sc_Over_moments.nd rfl (Or.inr rfl))
      (pss_one (ps_expr (pe_bm PySem.F.plainAttrs_list PySem.F.slot_list_extend PySem.F.type_list_extend mt_extend (pv 2) (pa_cons (pe_lc (own := [("moment", 4)]) (by rfl) sc_Over_moments.nd (pi_list (pv 1)) (blkOk_by (own := [("moment", 4)]) (N := ["self", "own", "found", "time", "moment"]) (sc := defScope s_Over_moments) (by decide +kernel)) (fun _ _ _ _ _ => (pg_name (i := 4) sc_Over_moments.nd rfl (Or.inl rfl))) (fun _ _ _ _ _ => pts_nil) (fun _ _ _ _ _ => (pe_op op_add (pv 4) (pe_op op_mul (pv 3) (pe_fldK K (pv 0) (by rfl)))))) pa_nil)))))
      (pss_one (ps_ret (pv 2)))))), ?_⟩
    obtain ⟨_, m2, hm, hml, hl, hpl, hokL⟩ := ov_facts hok
    have hnL := ov_nest hn
    unfold Tr.moms at q
    unfold ShAt at hO
    obtain ⟨dx, kp, as, ha, hk, hA⟩ := hO
    generalize hns : momsL ps = ns at *
    refine ⟨_, rfl, a, _, dx, _, _, rfl, ha, T.c_Over, T.a_Over_kept, rfl, kp, as, ps, rfl, hk, hA, hnL, hokL, by rw [hns]; exact hl, fun w H1 X1 nw hw => ?_⟩
    rw [hns] at hw
    refine ⟨by show 0 ≤ sizeLine; decide, fun f nf => ?_⟩
    have nf0 := ex_fresh X1 nf
    have X2 := X1.trans (ex_new (o := .lst []) nf)
    have wf : w ≠ f := ne_of_none hw nf
    have af : a ≠ f := ne_of_none ha nf0
    have ha2 := X2 _ _ ha
    have hw2 := ex_new (o := .lst []) nf _ _ hw
    have hf2 : upd H1 f (.lst []) f = some (.lst []) := upd_same
    generalize upd H1 f (.lst []) = H2 at X2 ha2 hw2 hf2 ⊢
    refine ⟨_, rfl, a, _, dx, _, _, rfl, ha2, T.c_Over, T.a_Over_many, rfl, _, rfl, by omega, by omega, for_range (fun i σ H' => Oth f H2 H' ∧ ∃ v3 v4, σ = [some (.ref a), some (.ref w), some (.ref f), v3, v4] ∧ H' f = some (.lst (natV (overN ns i s_)))) ⟨Oth.refl _ _, _, _, rfl, hf2⟩ ?_ ?_⟩
    · rintro i σ H3 hi ⟨O3, v3, v4, rfl, hf3⟩
      have hi2 : i < m := by omega
      have hw3 := O3 _ _ wf hw2
      have ha3 := O3 _ _ af ha2
      have ll : (overN ns i s_).length = i * ns.length := overN_len ns i s_
      have l2 : i * ns.length ≤ m * ns.length := Nat.mul_le_mul_right _ (by omega)
      refine ⟨_, rfl, .inl ⟨rfl, _, sq_lst hf3⟩, _, rfl, w, rfl, ⟨_, sq_lst hw3⟩, fun A nA => lc_on ns (fun n : Nat => V.int n) L2.walk_list (fun n => some (.int ((n + i * s_ : Nat) : Int))) (fun H' => Ex H3 H') (fun H' z e => ex_mut e nA) (.refl _) (by omega) (fun H' e => sq_lst (e _ _ hw3)) (fun j n H4 acc N hn X4 hD la k => ?_) fun H4 X4 d4 => ?_⟩
      · refine ⟨rfl, _, rfl, _, rfl, _, rfl, a, _, dx, _, _, rfl, X4 _ _ ha3, T.c_Over, T.a_Over_step, rfl, _, _, rfl, rfl, .inl ⟨by omega, by omega⟩, _, _, rfl, rfl, acc, hD, la, ?_⟩
        have e : ((n : Nat) : Int) + (0 + ((i : Nat) : Int)) * ((s_ : Nat) : Int) = ((n + i * s_ : Nat) : Int) := by simp
        show N (upd H4 A (.lst (acc ++ [.int (((n : Nat) : Int) + (0 + ((i : Nat) : Int)) * ((s_ : Nat) : Int))])))
        rw [e]
        exact k H4 X4 hD
      · have ed : ns.filterMap (fun n => some (V.int ((n + i * s_ : Nat) : Int))) = natV (ns.map fun n => n + i * s_) := by
          unfold natV
          rw [List.filterMap_eq_map', List.map_map]
          rfl
        rw [ed] at d4
        refine ⟨f, A, _, _, rfl, rfl, X4 _ _ hf3, d4, sz_le (by rw [natV_len, natV_len, List.length_map, ll]; omega), (O3.trans (ex_oth X4)).upd, _, _, rfl, ?_⟩
        rw [upd_same, overN_succ]
        unfold natV
        rw [List.map_append]
    · rintro σ H3 ⟨O3, v3, v4, rfl, hf3⟩
      rw [show ((m : Nat) : Int).toNat = m by omega] at hf3
      exact ⟨_, rfl, q f H3 (Oth.ex X2 nf0 O3) nf0 hf3⟩
theorem ok_Over_moments {P : Program} {w : World} {K : PySem.W.Frag} {mg : Str → Option Value} {base : Heap} (T : Env K mg) {d L : Nat} (hL : 40 ≤ L) (r_Over_moments : Fc P w K mg base L (He.ma K (He.ga K "Over") "moments") [] (sp_Over_moments K d)) : Fc P w K mg base (L + 2) (He.ma K (He.ga K "Over") "moments") [] (sp_Over_moments K (d + 1)) := by
  obtain ⟨fd, D, F⟩ := fb_Over_moments T hL r_Over_moments
  exact F.all (D.bindsN fun _ _ _ _ _ _ us hl => match us, hl with | [_], _ => rfl)
theorem all_Over_moments {P : Program} {w : World} {K : PySem.W.Frag} {mg : Str → Option Value} {base : Heap} (T : Env K mg) : ∀ d, Fc P w K mg base (40 + 2 * d) (He.ma K (He.ga K "Over") "moments") [] (sp_Over_moments K d)
  | 0 => fc_no fun vs H Q E h => by
    obtain ⟨a, ps, m, s, _, _, h, _⟩ := h
    unfold Tr.nest at h
    omega
  | d + 1 => ok_Over_moments T (Nat.le_add_right 40 _) (all_Over_moments T d)
end
section
theorem fb_Over_str {P : Program} {w : World} {K : PySem.W.Frag} {mg : Str → Option Value} {base : Heap} (T : Env K mg) {d L : Nat} (hL : 40 ≤ L) (r_Over_str : Fc P w K mg base L (He.ma K (He.ga K "Over") "__str__") [] (sp_Over_str K d)) : ∃ fd, FunD K "__str__" "Over.__str__" (defArgs s_Over_str) (defBody s_Over_str) (defScope s_Over_str) [] [] (He.ma K (He.ga K "Over") "__str__") fd ∧ Fb P w K mg base (L + 4) (He.ma K (He.ga K "Over") "__str__") fd ["self"] (sp_Over_str K (d + 1)) := by
  obtain ⟨fd, F⟩ := T.f_Over_str
  refine ⟨fd, F, fb_of F sc_Over_str (fun vs H Q E h => ?_) (fun cdv A outer s H vs Q E hr h => ?_)⟩
  · obtain ⟨a, ps, m, s, rfl, _⟩ := h
    rfl
  · obtain ⟨a, ps, m, s_, rfl, hO, hn, hf, hc, q⟩ := h
    refine ⟨_, (pss_one (ps_ret (pe_joined (PJ.cons pe_str (PJ.cons (pe_fmt (c_call (ok_row_text T hL r_Over_str) (hr.mono (by omega)) T.g_row_text T.k_row_text takes0 (pa_cons (pe_fld (pv 0) (by rfl)) pa_nil))) (PJ.cons pe_str (PJ.cons (pe_fmt (pe_fld (pv 0) (by rfl))) (PJ.cons pe_str (PJ.cons (pe_fmt (pe_fld (pv 0) (by rfl))) PJ.nil))))))))), ?_⟩
    have hnL := ov_nest hn
    have htl := txt_len hf
    unfold Tr.pcs at hc htl
    unfold Tr.fit at hf
    unfold Tr.txt at q htl
    obtain ⟨f1, f2, f3⟩ := hf
    have rl := rowT_len f3
    unfold ShAt at hO
    obtain ⟨dx, kp, as, ha, hk, hA⟩ := hO
    have b1 := log_small f1
    have b2 := log_small f2
    have hpl : pcsL ps ≤ 10000 := by omega
    refine ⟨_, rfl, (by decide), _, rfl, _, _, _, _, _, rfl, ha, T.c_Over, T.a_Over_kept, rfl, _, _, _, rfl, hk, hA, hnL, f3, hpl, ?_⟩
    intro H1 X1
    have ha1 := X1 _ _ ha
    rw [show Str.empty ++ Str.ofString "(" = SX.S [40] from rfl]
    refine .inl ⟨_, rfl, sz_big (by rw [SX.S_len]; omega), _, rfl, ?_⟩
    rw [SX.S_cat]
    refine ⟨sz_big (by rw [SX.S_len, List.length_append]; show 1 + _ ≤ _; omega), _, rfl, ?_⟩
    rw [show Str.ofString ") x" = SX.S [41, 32, 120] from rfl, SX.S_cat]
    refine ⟨sz_big (by rw [SX.S_len]; simp only [List.length_append, List.length_cons, List.length_nil]; omega), ?_⟩
    refine ⟨_, rfl, _, _, _, _, _, rfl, ha1, T.c_Over, T.a_Over_many, rfl, .inr ⟨_, rfl, b1, _, rfl, ?_⟩⟩
    rw [SX.num_S, SX.S_cat]
    have l1 := TL.numL_len (by decide) f1
    have l2 := TL.numL_len (by decide) f2
    refine ⟨sz_big (by rw [SX.S_len]; simp only [List.length_append, List.length_cons, List.length_nil]; omega), _, rfl, ?_⟩
    rw [show Str.ofString " +" = SX.S [32, 43] from rfl, SX.S_cat]
    refine ⟨sz_big (by rw [SX.S_len]; simp only [List.length_append, List.length_cons, List.length_nil]; omega), ?_⟩
    refine ⟨_, rfl, _, _, _, _, _, rfl, ha1, T.c_Over, T.a_Over_step, rfl, .inr ⟨_, rfl, b2, _, rfl, ?_⟩⟩
    rw [SX.num_S, SX.S_cat]
    refine ⟨sz_big (by rw [SX.S_len]; simp only [List.length_append, List.length_cons, List.length_nil]; omega), ?_⟩
    exact q H1 X1
theorem ok_Over_str {P : Program} {w : World} {K : PySem.W.Frag} {mg : Str → Option Value} {base : Heap} (T : Env K mg) {d L : Nat} (hL : 40 ≤ L) (r_Over_str : Fc P w K mg base L (He.ma K (He.ga K "Over") "__str__") [] (sp_Over_str K d)) : Fc P w K mg base (L + 4) (He.ma K (He.ga K "Over") "__str__") [] (sp_Over_str K (d + 1)) := by
  obtain ⟨fd, D, F⟩ := fb_Over_str T hL r_Over_str
  exact F.all (D.bindsN fun _ _ _ _ _ _ us hl => match us, hl with | [_], _ => rfl)
theorem all_Over_str {P : Program} {w : World} {K : PySem.W.Frag} {mg : Str → Option Value} {base : Heap} (T : Env K mg) : ∀ d, Fc P w K mg base (40 + 4 * d) (He.ma K (He.ga K "Over") "__str__") [] (sp_Over_str K d)
  | 0 => fc_no fun vs H Q E h => by
    obtain ⟨a, ps, m, s, _, _, h, _⟩ := h
    unfold Tr.nest at h
    omega
  | d + 1 => ok_Over_str T (Nat.le_add_right 40 _) (all_Over_str T d)
end
section
abbrev SpreadC (K : PySem.W.Frag) : Addr := He.ga K "Spread"
def sprF (kp hd : Addr) : List (Str × V) := [("kept", .ref kp), ("held", .ref hd)]
/-- at a a spread of these shorts -/
def SprAt (K : PySem.W.Frag) (H : Hp) (a : Addr) (ts : List Tr) : Prop := ∃ dx kp hd as, H a = some (.ins (SpreadC K) dx (sprF kp hd)) ∧ H kp = some (.tup (as.map V.ref)) ∧ H hd = some (.lst (natV (momsL ts))) ∧ ShsAt K H ts as
theorem SprAt.mono {K : PySem.W.Frag} {H H' : Hp} {a : Addr} {ts : List Tr} (h : SprAt K H a ts) (e : Ex H H') : SprAt K H' a ts := let ⟨dx, kp, hd, as, h1, h2, h3, h4⟩ := h; ⟨dx, kp, hd, as, e _ _ h1, e _ _ h2, e _ _ h3, h4.mono e⟩
theorem sprF_inj {a b c d : Addr} (h : sprF a b = sprF c d) : a = c ∧ b = d := by
  unfold sprF at h
  simpa using h
theorem ins_inj {C dx dy : Addr} {fs gs : List (Str × V)} (h : some (HO.ins C dx fs) = some (HO.ins C dy gs)) : dx = dy ∧ fs = gs := by
  cases h
  exact ⟨rfl, rfl⟩
/-- the list that a spread holds stands at a place that N tells -/
def HeldN (K : PySem.W.Frag) (N : Addr → Prop) (H : Hp) (a : Addr) : Prop := ∀ dx kp hd, H a = some (.ins (SpreadC K) dx (sprF kp hd)) → N hd
theorem HeldN.ex {K : PySem.W.Frag} {N : Addr → Prop} {H H' : Hp} {a : Addr} {ts : List Tr} (h : HeldN K N H a) (s : SprAt K H a ts) (e : ∀ o, H a = some o → H' a = some o) : HeldN K N H' a := fun dx kp hd z => by
  obtain ⟨dx2, kp2, hd2, as2, h2, _⟩ := s
  obtain ⟨_, e5⟩ := ins_inj ((e _ h2).symm.trans z)
  obtain ⟨e6, e7⟩ := sprF_inj e5
  rw [← e7]
  exact h _ _ _ h2
theorem SprAt.put {K : PySem.W.Frag} {N : Addr → Prop} {H : Hp} {a f : Addr} {ts : List Tr} {xs ys : List V} (s : SprAt K H a ts) (h : HeldN K N H a) (n : ∀ b, N b → b ≠ f) (hf : H f = some (.lst xs)) : SprAt K (upd H f (.lst ys)) a ts ∧ HeldN K N (upd H f (.lst ys)) a := by
  have keep : ∀ b o, H b = some o → (∀ zs, o ≠ .lst zs) → upd H f (.lst ys) b = some o := fun b o hb ho => by
    rw [upd_ne (fun z => by rw [z, hf] at hb; cases hb; exact ho _ rfl)]
    exact hb
  obtain ⟨dx, kp, hd, as, h1, h2, h3, h4⟩ := id s
  refine ⟨⟨dx, kp, hd, as, keep _ _ h1 (fun _ z => nomatch z), keep _ _ h2 (fun _ z => nomatch z), ?_, h4.oth ((Oth.refl f H).upd) fun ob ho => ?_⟩, h.ex s fun o ho => ?_⟩
  · rw [upd_ne (n _ (h _ _ _ h1))]
    exact h3
  · rw [hf] at ho
    cases ho
    exact ⟨_, rfl⟩
  · rw [h1] at ho
    cases ho
    exact keep _ _ h1 (fun _ z => nomatch z)
def sprB (ts : List Tr) : Bool := risB ts && decide ((momsL ts).length ≤ 1440)
def sp_Spread_init (K : PySem.W.Frag) : Sp := fun vs H Q E => ∃ (a dx p : Addr) (as : List Addr) (ts : List Tr) (H0 : Hp), vs = [.ref a, .ref p] ∧ H a = some (.ins (SpreadC K) dx []) ∧ H0 a = none ∧ Ex H0 H ∧ SqA H0 p (as.map V.ref) ∧ ShsAt K H0 ts as ∧ nestL ts ≤ 8 ∧ okL_ ts ∧ ts.length ≤ 20000 ∧ ts.length ≤ 20000 ∧ (sprB ts = true → ∀ H', Oth a H H' → SprAt K H' a ts → HeldN K (fun b => H0 b = none) H' a → Q .non H') ∧ (sprB ts = false → ∀ H', Oth a H H' → E (.ref (He.ga K "NoPiece")) none H')
theorem fb_Spread_init {P : Program} {w : World} {K : PySem.W.Frag} {mg : Str → Option Value} {base : Heap} (T : Env K mg) : ∃ fd, FunD K "__init__" "Spread.__init__" (defArgs s_Spread_init) (defBody s_Spread_init) (defScope s_Spread_init) [] [] (He.ma K (He.ga K "Spread") "__init__") fd ∧ Fb P w K mg base 64 (He.ma K (He.ga K "Spread") "__init__") fd ["self", "parts"] (sp_Spread_init K) := by
  obtain ⟨fd, F⟩ := T.f_Spread_init
  refine ⟨fd, F, fb_of F sc_Spread_init (fun vs H Q E h => ?_) (fun cdv A outer s H vs Q E hr h => ?_)⟩
  · obtain ⟨a, dx, p, as, ts, H0, rfl, _⟩ := h
    rfl
  · obtain ⟨a, dx, p, as, ts, H0, rfl, ha, na0, X0, hp, hA, hn, hok, hlm, hlt, q, qe⟩ := h
    refine ⟨_, (pss_cons (ps_fld (pv 0) (c_call (ok_shorts_in T) (hr.mono (by decide)) T.g_shorts_in T.k_shorts_in (takes_of rfl rfl rfl rfl) (pa_cons (pv 1) pa_nil)) rfl)
      (pss_cons (ps_if (pt_cmpR op_gt (c_call (ok_row_many T (Nat.le_add_right 40 _) (all_Over_means_many T 9)) (hr.mono (by decide)) T.g_row_many T.k_row_many (takes_of rfl rfl rfl rfl) (pa_cons (pe_fld (pv 0) (by rfl)) pa_nil)) (pe_k T.v_MOST_MOMENTS) (nomark _))
      (pss_one (ps_raise rfl (takes_of rfl rfl rfl rfl) (pmk_own PySem.F.excBase_ValueError T.x_NoPiece.x T.g_NoPiece T.x_NoPiece.kp (raises_own T.x_NoPiece.sub T.x_NoPiece.ty) rfl)))
      pss_nil)
      (pss_one (ps_fld (pv 0) (c_call (ok_row_moments T (Nat.le_add_right 40 _) (all_Over_moments T 9)) (hr.mono (by decide)) T.g_row_moments T.k_row_moments (takes_of rfl rfl rfl rfl) (pa_cons (pe_fld (pv 0) (by rfl)) pa_nil)) rfl)))), ?_⟩
    have hpH : SqA H p (as.map V.ref) := hp.imp (fun h => X0 _ _ h) (fun h => X0 _ _ h)
    refine ⟨_, rfl, p, as, ts, rfl, hpH, hA.mono X0, by omega, hok, hlt, fun hr2 t H1 X1 ht => ?_, fun hr2 H1 X1 => qe (by unfold sprB; rw [hr2]; rfl) H1 (ex_oth X1)⟩
    refine ⟨_, rfl, a, _, dx, [], rfl, X1 _ _ ha, T.c_Spread, T.a_Spread_kept, by decide, ?_⟩
    have ta : t ≠ a := fun z => by rw [z, X1 _ _ ha] at ht; cases ht
    have O1 : Oth a H (upd H1 a (.ins (SpreadC K) dx (putF "kept" (.ref t) []))) := (ex_oth X1).upd
    have h2 : upd H1 a (.ins (SpreadC K) dx (putF "kept" (.ref t) [])) a = some (.ins (SpreadC K) dx [("kept", .ref t)]) := upd_same
    have ht2 : upd H1 a (.ins (SpreadC K) dx (putF "kept" (.ref t) [])) t = some (.tup (as.map V.ref)) := by rw [upd_ne ta]; exact ht
    generalize upd H1 a (.ins (SpreadC K) dx (putF "kept" (.ref t) [])) = H2 at O1 h2 ht2 ⊢
    have X02 : Ex H0 H2 := Oth.ex X0 na0 O1
    have hA2 : ShsAt K H2 ts as := hA.mono X02
    refine ⟨_, rfl, a, _, dx, _, _, rfl, h2, T.c_Spread, T.a_Spread_kept, rfl, t, as, ts, rfl, ht2, hA2, by omega, hok, hlm, fun H3 X3 => ⟨_, _, rfl, rfl, _, rfl, ?_⟩⟩
    by_cases c : (momsL ts).length ≤ 1440
    · rw [decide_eq_false (show ¬ (1440 : Int) < (((momsL ts).length : Nat) : Int) by omega)]
      refine iteF ?_
      refine ⟨_, rfl, a, _, dx, _, _, rfl, X3 _ _ h2, T.c_Spread, T.a_Spread_kept, rfl, t, as, ts, rfl, X3 _ _ ht2, hA2.mono X3, by omega, hok, c, fun hd H4 X4 nhd hhd => ?_⟩
      have X34 := X3.trans X4
      have hda : hd ≠ a := fun z => by rw [z, X34 _ _ h2] at hhd; cases hhd
      refine ⟨_, rfl, a, _, dx, _, rfl, X34 _ _ h2, T.c_Spread, T.a_Spread_held, Nat.le_of_ble_eq_true rfl, ?_⟩
      have O4 : Oth a H (upd H4 a (.ins (SpreadC K) dx (sprF t hd))) := (O1.trans (ex_oth X34)).upd
      refine q (by unfold sprB; rw [hr2, decide_eq_true c]; rfl) _ O4 ⟨dx, t, hd, as, upd_same, by rw [upd_ne ta]; exact X34 _ _ ht2, by rw [upd_ne hda]; exact hhd, hA.mono (Oth.ex X0 na0 O4)⟩ fun dx' kp' hd' e => ?_
      rw [upd_same] at e
      rw [← (sprF_inj (ins_inj e).2).2]
      exact ex_fresh (X02.trans X3) nhd
    · rw [decide_eq_true (show (1440 : Int) < (((momsL ts).length : Nat) : Int) by omega)]
      exact iteT (qe (by unfold sprB; rw [decide_eq_false c, Bool.and_false]) H3 (O1.trans (ex_oth X3)))
theorem spread_new {K : PySem.W.Frag} {H : Hp} {x dx p : Addr} {as : List Addr} {ts : List Tr} {Q : VK} {E : XK} (nx : H x = none) (nd : H dx = none) (ne : dx ≠ x) (hp : SqA H p (as.map V.ref)) (hA : ShsAt K H ts as) (hn : nestL ts ≤ 8) (hok : okL_ ts) (hb : sprB ts = true) (q : ∀ H', Ex H H' → SprAt K H' x ts → Q .non H') :
    sp_Spread_init K [.ref x, .ref p] (upd (upd H dx (.own x)) x (.ins (SpreadC K) dx [])) Q E := by
  have X1 := ex_made (o1 := .own x) (o2 := .ins (SpreadC K) dx []) nx nd ne
  have hl : (momsL ts).length ≤ 1440 := of_decide_eq_true (Bool.and_eq_true_iff.mp hb).2
  have h2 := len_moms hok
  refine ⟨x, dx, p, as, ts, H, rfl, upd_same, nx, X1, hp, hA, hn, hok, by omega, by omega, fun _ H' k d _ => ?_, fun z => by rw [hb] at z; cases z⟩
  exact q H' (fun b o e => k b o (ne_of_none e nx) (X1 _ _ e)) d
theorem spread_newH {K : PySem.W.Frag} {H : Hp} {x dx p : Addr} {as : List Addr} {ts : List Tr} {Q : VK} {E : XK} (nx : H x = none) (nd : H dx = none) (ne : dx ≠ x) (hp : SqA H p (as.map V.ref)) (hA : ShsAt K H ts as) (hn : nestL ts ≤ 8) (hok : okL_ ts) (hb : sprB ts = true) (q : ∀ H', Ex H H' → SprAt K H' x ts → HeldN K (fun b => H b = none) H' x → Q .non H') :
    sp_Spread_init K [.ref x, .ref p] (upd (upd H dx (.own x)) x (.ins (SpreadC K) dx [])) Q E := by
  have X1 := ex_made (o1 := .own x) (o2 := .ins (SpreadC K) dx []) nx nd ne
  have hl : (momsL ts).length ≤ 1440 := of_decide_eq_true (Bool.and_eq_true_iff.mp hb).2
  have h2 := len_moms hok
  refine ⟨x, dx, p, as, ts, H, rfl, upd_same, nx, X1, hp, hA, hn, hok, by omega, by omega, fun _ H' k d e => ?_, fun z => by rw [hb] at z; cases z⟩
  exact q H' (fun b o e => k b o (ne_of_none e nx) (X1 _ _ e)) d e
theorem ok_Spread_init {P : Program} {w : World} {K : PySem.W.Frag} {mg : Str → Option Value} {base : Heap} (T : Env K mg) : Fc P w K mg base 64 (He.ma K (He.ga K "Spread") "__init__") [] (sp_Spread_init K ) := by
  obtain ⟨fd, D, F⟩ := fb_Spread_init T
  exact F.all (D.bindsN fun _ _ _ _ _ _ us hl => match us, hl with | [_, _], _ => rfl)
end
section
def sp_Spread_moments (K : PySem.W.Frag) : Sp := fun vs H Q _ => ∃ a ts, vs = [.ref a] ∧ SprAt K H a ts ∧ ∀ p, H p = none → Q (.ref p) (upd H p (.lst (natV (momsL ts))))
theorem fb_Spread_moments {P : Program} {w : World} {K : PySem.W.Frag} {mg : Str → Option Value} {base : Heap} (T : Env K mg) : ∃ fd, FunD K "moments" "Spread.moments" (defArgs s_Spread_moments) (defBody s_Spread_moments) (defScope s_Spread_moments) [] [] (He.ma K (He.ga K "Spread") "moments") fd ∧ Fb P w K mg base 1 (He.ma K (He.ga K "Spread") "moments") fd ["self"] (sp_Spread_moments K) := by
  obtain ⟨fd, F⟩ := T.f_Spread_moments
  refine ⟨fd, F, fb_of F sc_Spread_moments (fun vs H Q E h => ?_) (fun cdv A outer s H vs Q E hr h => ?_)⟩
  · obtain ⟨a, ts, rfl, _⟩ := h
    rfl
  · obtain ⟨a, ts, rfl, hO, q⟩ := h
    refine ⟨_, (pss_one (ps_ret (pe_callTy call_list_of (by rfl) T.n_list (by decide +kernel) (pa_cons (pe_fld (pv 0) (by rfl)) pa_nil)))), ?_⟩
    obtain ⟨dx, kp, hd, as, ha, hk, hh, hA⟩ := id hO
    exact ⟨_, rfl, a, _, dx, _, _, rfl, ha, T.c_Spread, T.a_Spread_held, rfl, hd, _, rfl, .inl (sq_lst hh), q⟩
theorem ok_Spread_moments {P : Program} {w : World} {K : PySem.W.Frag} {mg : Str → Option Value} {base : Heap} (T : Env K mg) : Fc P w K mg base 1 (He.ma K (He.ga K "Spread") "moments") [] (sp_Spread_moments K ) := by
  obtain ⟨fd, D, F⟩ := fb_Spread_moments T
  exact F.all (D.bindsN fun _ _ _ _ _ _ us hl => match us, hl with | [_], _ => rfl)
end
section
def sp_Spread_str (K : PySem.W.Frag) : Sp := fun vs H Q _ => ∃ a ts, vs = [.ref a] ∧ SprAt K H a ts ∧ nestL ts ≤ 9 ∧ fitL ts ∧ pcsL ts ≤ 10000 ∧ ∀ H', Ex H H' → Q (.str (SX.S (rowT (txtL ts)))) H'
theorem fb_Spread_str {P : Program} {w : World} {K : PySem.W.Frag} {mg : Str → Option Value} {base : Heap} (T : Env K mg) : ∃ fd, FunD K "__str__" "Spread.__str__" (defArgs s_Spread_str) (defBody s_Spread_str) (defScope s_Spread_str) [] [] (He.ma K (He.ga K "Spread") "__str__") fd ∧ Fb P w K mg base 80 (He.ma K (He.ga K "Spread") "__str__") fd ["self"] (sp_Spread_str K) := by
  obtain ⟨fd, F⟩ := T.f_Spread_str
  refine ⟨fd, F, fb_of F sc_Spread_str (fun vs H Q E h => ?_) (fun cdv A outer s H vs Q E hr h => ?_)⟩
  · obtain ⟨a, ts, rfl, _⟩ := h
    rfl
  · obtain ⟨a, ts, rfl, hO, hn, hf, hc, q⟩ := h
    refine ⟨_, (pss_one (ps_ret (pe_joined1 (pe_fmt (c_call (ok_row_text T (Nat.le_add_right 40 _) (all_Over_str T 9)) (hr.mono (by decide)) T.g_row_text T.k_row_text takes0 (pa_cons (pe_fld (pv 0) (by rfl)) pa_nil)))))), ?_⟩
    have rl := rowT_len hf
    obtain ⟨dx, kp, hd, as, ha, hk, hA, hh⟩ := hO
    refine ⟨_, rfl, _, _, _, _, _, rfl, ha, T.c_Spread, T.a_Spread_kept, rfl, _, _, _, rfl, hk, hh, hn, hf, hc, ?_⟩
    intro H1 X1
    exact .inl ⟨_, rfl, sz_big (by rw [SX.S_len]; omega), q H1 X1⟩
theorem ok_Spread_str {P : Program} {w : World} {K : PySem.W.Frag} {mg : Str → Option Value} {base : Heap} (T : Env K mg) : Fc P w K mg base 80 (He.ma K (He.ga K "Spread") "__str__") [] (sp_Spread_str K ) := by
  obtain ⟨fd, D, F⟩ := fb_Spread_str T
  exact F.all (D.bindsN fun _ _ _ _ _ _ us hl => match us, hl with | [_], _ => rfl)
end
section
def isSep (c : Nat) : Bool := c == 44 || (c == 40 || c == 41)
def itm (r : List Nat) : List Nat := r.takeWhile fun c => !isSep c
def numIn (l : List Nat) : Option Nat := if Mo.figs l then some (Mo.val l) else none
def ovWords : List (List Nat) → Option (Nat × Nat)
  | [w0, w1, w2] => if w0 = [] ∧ w1.take 1 = [120] ∧ w2.take 1 = [43] then (match numIn (w1.drop 1), numIn (w2.drop 1) with
    | some m, some s => some (m, s)
    | _, _ => none) else none
  | _ => none
def ovTail (l : List Nat) : Option (Nat × Nat) := ovWords (TL.spl [32] 0 [] l)
theorem itm_len (r : List Nat) : (itm r).length ≤ r.length := (List.takeWhile_sublist _).length_le
theorem itm_take (r : List Nat) : r.take (itm r).length = itm r := (List.prefix_iff_eq_take.mp (List.takeWhile_prefix _)).symm
/-- at r a list of these shorts -/
def RowAt (K : PySem.W.Frag) (H : Hp) (ts : List Tr) (r : Addr) : Prop := ∃ as, H r = some (.lst (as.map V.ref)) ∧ ShsAt K H ts as
/-- open rows, the last one first -/
def RowsAt (K : PySem.W.Frag) (H : Hp) : List (List Tr) → List Addr → Prop
  | [], rs => rs = []
  | ts :: st, rs => ∃ r q, rs = r :: q ∧ RowAt K H ts r ∧ RowsAt K H st q
theorem RowAt.mono {K : PySem.W.Frag} {H H' : Hp} {ts : List Tr} {r : Addr} (h : RowAt K H ts r) (e : Ex H H') : RowAt K H' ts r := let ⟨as, h1, h2⟩ := h; ⟨as, e _ _ h1, h2.mono e⟩
theorem RowsAt.mono {K : PySem.W.Frag} {H H' : Hp} (e : Ex H H') : ∀ {st : List (List Tr)} {rs : List Addr}, RowsAt K H st rs → RowsAt K H' st rs
  | [], rs, h => h
  | ts :: st, rs, h => by
    obtain ⟨r, q, h1, h2, h3⟩ := h
    exact ⟨r, q, h1, h2.mono e, RowsAt.mono e h3⟩
theorem RowsAt.oth {K : PySem.W.Frag} {H H' : Hp} {d : Addr} (o : Oth d H H') (hd : ∀ ob, H d = some ob → (∃ xs, ob = .lst xs)) : ∀ {st : List (List Tr)} {rs : List Addr}, d ∉ rs → RowsAt K H st rs → RowsAt K H' st rs
  | [], rs, _, h => h
  | ts :: st, rs, nd, h => by
    obtain ⟨r, q, rfl, ⟨as, h1, h2⟩, h3⟩ := h
    refine ⟨r, q, rfl, ⟨as, o _ _ (fun z => nd (by rw [z]; exact List.mem_cons_self)) h1, h2.oth o hd⟩, RowsAt.oth o hd (fun z => nd (List.mem_cons_of_mem _ z)) h3⟩
theorem RowsAt.len {K : PySem.W.Frag} {H : Hp} : ∀ {st : List (List Tr)} {rs : List Addr}, RowsAt K H st rs → rs.length = st.length
  | [], rs, h => by
    rw [show rs = [] from h]
    rfl
  | ts :: st, rs, h => by
    obtain ⟨r, q, rfl, _, h3⟩ := h
    rw [List.length_cons, List.length_cons, RowsAt.len h3]
theorem RowsAt.some {K : PySem.W.Frag} {H : Hp} {r : Addr} : ∀ {st : List (List Tr)} {rs : List Addr}, RowsAt K H st rs → r ∈ rs → ∃ xs, H r = some (.lst xs)
  | [], rs, h, hr => by
    rw [show rs = [] from h] at hr
    cases hr
  | ts :: st, rs, h, hr => by
    obtain ⟨r', q, rfl, ⟨as, h1, _⟩, h3⟩ := h
    rcases List.mem_cons.mp hr with rfl | hr
    · exact ⟨_, h1⟩
    · exact RowsAt.some h3 hr
/-- all but these lists is as it was -/
def Rch (R : Addr) (rs : List Addr) (H H' : Hp) : Prop := ∀ b o, b ≠ R → b ∉ rs → H b = some o → H' b = some o
def goodRow (ts : List Tr) : Prop := okL_ ts ∧ nestL ts ≤ 8 ∧ ts.length ≤ 10000
/-- one step of the reading -/
def stp (c : Nat) (r : List Nat) (st : List (List Tr)) : Option (Nat × List (List Tr)) :=
  if c = 44 ∨ c = 32 then some (1, st)
  else if c = 40 then (if 8 < st.length then none else some (1, [] :: st))
  else if c = 41 then (match st with
    | top :: nxt :: rest => (match ovTail (itm r) with
        | some (m, s) => if ovB top (.int (m : Nat)) (.int (s : Nat)) = true then some (1 + (itm r).length, (nxt ++ [.ov top m s]) :: rest) else none
        | none => none)
    | _ => none)
  else match st with
    | top :: rest => (match Mo.momOf (c :: itm r) with
        | some n => some (1 + (itm r).length, (top ++ [.at n]) :: rest)
        | none => none)
    | [] => none
theorem put_row {K : PySem.W.Frag} {H Hk : Hp} {R r0 a : Addr} {rq as : List Addr} {top : List Tr} {stq : List (List Tr)} {t : Tr} (X : Ex H Hk) (hR : H R = some (.lst ((r0 :: rq).reverse.map V.ref))) (hr0 : H r0 = some (.lst (as.map V.ref))) (hS : ShsAt K H top as) (hrq : RowsAt K H stq rq) (nd : (R :: r0 :: rq).Nodup) (hA : ShAt K Hk t a) :
    Rch R (r0 :: rq) H (upd Hk r0 (.lst (as.map V.ref ++ [.ref a]))) ∧ upd Hk r0 (.lst (as.map V.ref ++ [.ref a])) R = some (.lst ((r0 :: rq).reverse.map V.ref)) ∧ RowsAt K (upd Hk r0 (.lst (as.map V.ref ++ [.ref a]))) ((top ++ [t]) :: stq) (r0 :: rq) := by
  have O1 : Oth r0 Hk (upd Hk r0 (.lst (as.map V.ref ++ [.ref a]))) := (Oth.refl _ _).upd
  have nR : R ≠ r0 := fun z => (List.nodup_cons.mp nd).1 (by rw [z]; exact List.mem_cons_self)
  have n02 : r0 ∉ rq := (List.nodup_cons.mp (List.nodup_cons.mp nd).2).1
  have hl : ∀ ob, Hk r0 = some ob → ∃ xs, ob = .lst xs := fun ob e => by
    rw [X _ _ hr0] at e
    cases e
    exact ⟨_, rfl⟩
  refine ⟨fun b o hb hb2 e => O1 _ _ (fun z => hb2 (by rw [z]; exact List.mem_cons_self)) (X _ _ e), O1 _ _ nR (X _ _ hR), ⟨r0, rq, rfl, ⟨as ++ [a], ?_, ((hS.mono X).oth O1 hl).snoc (hA.oth O1 hl)⟩, (hrq.mono X).oth O1 hl n02⟩⟩
  rw [upd_same, List.map_append]
  rfl
end
section
def sp_number_in (K : PySem.W.Frag) : Sp := fun vs H Q E => ∃ l : List Nat, vs = [.str (SX.S l)] ∧ l.length ≤ 600 ∧ (∀ n : Nat, numIn l = some n → ∀ H', Ex H H' → Q (.int n) H') ∧ (numIn l = none → ∀ H', Ex H H' → E (.ref (He.ga K "NoPiece")) none H')
theorem fb_number_in {P : Program} {w : World} {K : PySem.W.Frag} {mg : Str → Option Value} {base : Heap} (T : Env K mg) : ∃ fd, FunD K "number_in" "number_in" (defArgs s_number_in) (defBody s_number_in) (defScope s_number_in) [] [] (He.ga K "number_in") fd ∧ Fb P w K mg base 1 (He.ga K "number_in") fd ["word"] (sp_number_in K) := by
  obtain ⟨fd, F⟩ := T.f_number_in
  refine ⟨fd, F, fb_of F sc_number_in (fun vs H Q E h => ?_) (fun cdv A outer s H vs Q E hr h => ?_)⟩
  · obtain ⟨l, rfl, _⟩ := h
    rfl
  · obtain ⟨l, rfl, hl, q, qe⟩ := h
    refine ⟨_, (pss_cons (ps_if (PW.pt (pw_or (pt_cmpR op_eq (pv 0) pe_str (nomark _)) (pw_or1 (pt_not (pt_val (pe_callB (cr_all rfl) (by rfl) T.n_all (by decide +kernel) (pa_cons (pe_lc (own := [("sign", 1)]) (by rfl) sc_number_in.nd (pi_str (pv 0)) (blkOk_by (own := [("sign", 1)]) (N := ["word", "sign"]) (sc := defScope s_number_in) (by decide +kernel)) (fun _ _ _ _ _ => (pg_name (i := 1) sc_number_in.nd rfl (Or.inl rfl))) (fun _ _ _ _ _ => pts_nil) (fun _ _ _ _ _ => (pe_cmpR op_in_sign (pv 1) (pe_k T.v_FIGURES_spreads) (by rfl)))) pa_nil)))))))
      (pss_one (ps_raise rfl (takes_of rfl rfl rfl rfl) (pmk_own PySem.F.excBase_ValueError T.x_NoPiece.x T.g_NoPiece T.x_NoPiece.kp (raises_own T.x_NoPiece.sub T.x_NoPiece.ty) rfl)))
      pss_nil)
      (pss_one (ps_ret (pe_callTy call_int_str (by rfl) T.n_int (by decide +kernel) (pa_cons (pv 0) pa_nil))))), ?_⟩
    refine ⟨_, rfl, rfl, _, rfl, ?_⟩
    by_cases h0 : l = []
    · subst h0
      exact ifP rfl (iteT (qe rfl H (.refl H)))
    refine ifN (fun z => h0 (by injection z with z; exact SX.S_inj z)) ?_
    refine ⟨_, rfl, _, rfl, fun D nD => lc_fm L2.walk_str (fun i => some (.bl (Mo.isFig (l.getD i 0)))) (fun H' => Ex H H') (fun H' z e => ex_mut e nD) (.refl H) (by show l.toArray.size ≤ 100000; simp; omega) (fun _ _ => trivial) (fun i x H1 H2 acc N hi e hD la y k => ?_) fun H1 e1 d1 => ?_⟩
    · obtain ⟨rfl, c, hc, rfl⟩ := y
      refine ⟨rfl, _, rfl, c, _, rfl, rfl, acc, hD, la, ?_⟩
      rw [fig_in]
      have e2 : l.getD i 0 = c := by
        have hc2 : l[i]? = some c := by simpa using hc
        rw [List.getD_eq_getElem?_getD, hc2]
        rfl
      have k2 := k H2 e hD
      rw [e2] at k2
      exact k2
    have hd : H1 D = some (.lst ((l.map Mo.isFig).map V.bl)) := by
      rw [d1]
      have e3 := range_map_get l 0 (fun c => V.bl (Mo.isFig c))
      have e4 : l.toArray.size = l.length := by simp
      show some (HO.lst (List.filterMap _ (List.range l.toArray.size))) = _
      rw [e4, e3, List.map_map]
      rfl
    refine ⟨D, l.map Mo.isFig, rfl, sq_lst hd, ?_⟩
    have e5 : (l.map Mo.isFig).all id = Mo.figs l := by
      unfold Mo.figs
      rw [List.all_map]
      cases l with
      | nil => exact absurd rfl h0
      | cons a r => rfl
    rw [e5]
    refine ⟨_, rfl, ?_⟩
    cases hf : Mo.figs l with
    | false => exact iteT (qe (by unfold numIn; rw [hf]; rfl) H1 e1)
    | true =>
      refine iteF ?_
      obtain ⟨_, hdg⟩ := Mo.figs_iff.mp hf
      refine ⟨_, rfl, _, _, rfl, SX.int_S (Mo.all_fig hdg) h0 (by omega), by rw [SX.S_len]; omega, ?_⟩
      exact q (Mo.val l) (by unfold numIn; rw [hf]; rfl) H1 e1
theorem ok_number_in {P : Program} {w : World} {K : PySem.W.Frag} {mg : Str → Option Value} {base : Heap} (T : Env K mg) : Fc P w K mg base 1 (He.ga K "number_in") [] (sp_number_in K ) := by
  obtain ⟨fd, D, F⟩ := fb_number_in T
  exact F.all (D.bindsN fun _ _ _ _ _ _ us hl => match us, hl with | [_], _ => rfl)
end
section
def sp_at_in (K : PySem.W.Frag) : Sp := fun vs H Q E => ∃ l : List Nat, vs = [.str (SX.S l)] ∧ l.length ≤ 600 ∧ (∀ n : Nat, Mo.momOf l = some n → ∀ a H', Ex H H' → H a = none → ShAt K H' (.at n) a → Q (.ref a) H') ∧ (Mo.momOf l = none → ∀ H', Ex H H' → E (.ref (He.ga K "NoPiece")) none H')
theorem fb_at_in {P : Program} {w : World} {K : PySem.W.Frag} {mg : Str → Option Value} {base : Heap} (T : Env K mg) : ∃ fd, FunD K "at_in" "at_in" (defArgs s_at_in) (defBody s_at_in) (defScope s_at_in) [] [] (He.ga K "at_in") fd ∧ Fb P w K mg base 7 (He.ga K "at_in") fd ["text"] (sp_at_in K) := by
  obtain ⟨fd, F⟩ := T.f_at_in
  refine ⟨fd, F, fb_of F sc_at_in (fun vs H Q E h => ?_) (fun cdv A outer s H vs Q E hr h => ?_)⟩
  · obtain ⟨l, rfl, _⟩ := h
    rfl
  · obtain ⟨l, rfl, hl, q, qe⟩ := h
    refine ⟨_, (pss_cons (ps_try_from (i := 2) rfl rfl sc_at_in.nd rfl rfl rfl ⟨by rfl, by decide, .inl T.g_NoTime⟩ (fun hd => L2H.passesAt_of rfl hd) (takes_of rfl rfl rfl rfl) (fun W pn xe tk po => (pss_one (ps_set (i := 1) sc_at_in.nd rfl (Or.inl rfl) (c_callN (okN_read_moment T) (hr.mono (by decide)) T.g_read_moment T.k_read_moment tk (pa_cons (pv 0) pa_nil))))) (fun a pn xe => pmk5_own PySem.F.excBase_ValueError T.x_NoPiece.x T.g_NoPiece T.x_NoPiece.kp (raises_own T.x_NoPiece.sub T.x_NoPiece.ty) rfl))
      (pss_one (ps_ret (c_make T.mk_At (ok_At_init T) (hr.mono (by decide)) T.g_At (takes_of rfl rfl rfl rfl) (pa_cons (pv 1) pa_nil))))), ?_⟩
    refine ⟨_, rfl, _, rfl, ?_⟩
    refine .inl ⟨l, rfl, hl, fun n hn H1 X1 => ?_, fun hn H1 X1 => ?_⟩
    · refine ⟨_, rfl, fun x dx nx nd ne => at_new nx nd ne fun H2 X2 hA => ⟨rfl, ?_⟩⟩
      exact q n hn x H2 (X1.trans X2) (ex_fresh X1 nx) (by unfold ShAt; exact hA)
    · exact ⟨T.exm_NoTime_NoTime, raises_own T.x_NoTime.sub T.x_NoTime.ty, fun a na => qe hn H1 X1⟩
theorem ok_at_in {P : Program} {w : World} {K : PySem.W.Frag} {mg : Str → Option Value} {base : Heap} (T : Env K mg) : Fc P w K mg base 7 (He.ga K "at_in") [] (sp_at_in K ) := by
  obtain ⟨fd, D, F⟩ := fb_at_in T
  exact F.all (D.bindsN fun _ _ _ _ _ _ us hl => match us, hl with | [_], _ => rfl)
end
section
theorem sep_in (c : Nat) : (!decide (c ∈ (Str.ofString ",()").cps.toList)) = !isSep c := by
  have e : (Str.ofString ",()").cps.toList = [44, 40, 41] := rfl
  rw [e]
  unfold isSep
  simp only [List.mem_cons, List.not_mem_nil, or_false, Bool.decide_or]
  rfl
def sp_item_end (K : PySem.W.Frag) : Sp := fun vs H Q _ => ∃ (l : List Nat) (i : Nat), vs = [.str (SX.S l), .int i] ∧ i ≤ l.length ∧ l.length ≤ 20000 ∧ Q (.int ((i + (itm (l.drop i)).length : Nat) : Int)) H
theorem fb_item_end {P : Program} {w : World} {K : PySem.W.Frag} {mg : Str → Option Value} {base : Heap} (T : Env K mg) : ∃ fd, FunD K "item_end" "item_end" (defArgs s_item_end) (defBody s_item_end) (defScope s_item_end) [] [] (He.ga K "item_end") fd ∧ Fb P w K mg base 1 (He.ga K "item_end") fd ["text", "at"] (sp_item_end K) := by
  obtain ⟨fd, F⟩ := T.f_item_end
  refine ⟨fd, F, fb_of F sc_item_end (fun vs H Q E h => ?_) (fun cdv A outer s H vs Q E hr h => ?_)⟩
  · obtain ⟨l, i, rfl, _⟩ := h
    rfl
  · obtain ⟨l, i, rfl, hi, hl, q⟩ := h
    refine ⟨_, (pss_cons (ps_set (i := 2) sc_item_end.nd rfl (Or.inl rfl) (pv 1))
      (pss_cons (ps_while (passes_of rfl) (PW.pt (pw_and (pt_cmpR op_lt (pv 2) (pe_callB call_len (by rfl) T.n_len (by decide +kernel) (pa_cons (pv 0) pa_nil)) (nomark _)) (pw_and1 (pt_cmpR op_notIn_sign (pe_ix ix_str (pv 0) (pv 2) (fun _ _ => rfl)) pe_str (by rfl)))))
      (pss_one (ps_aug (i := 2) sc_item_end.nd rfl (Or.inl rfl) pe_int ip_add)))
      (pss_one (ps_ret (pv 2))))), ?_⟩
    refine ⟨_, rfl, fun m σ H' => H' = H ∧ ∃ j, σ = [some (.str (SX.S l)), some (.int i), some (.int ((i + j : Nat) : Int))] ∧ (itm (l.drop i)).length = j + (itm (l.drop (i + j))).length ∧ i + j ≤ l.length ∧ m = l.length - (i + j), ⟨_, rfl, 0, rfl, by rw [Nat.zero_add, Nat.add_zero], hi, rfl⟩, ?_⟩
    rintro m σ H1 ⟨rfl, j, rfl, hj, hle, rfl⟩
    have ls : (SX.S l).length ≤ sizeLine := sz_big (by rw [SX.S_len]; omega)
    refine ⟨_, rfl, _, rfl, _, _, rfl, ⟨ls, rfl⟩, _, _, rfl, rfl, _, rfl, ?_⟩
    rw [SX.S_len]
    by_cases c : i + j < l.length
    · refine ifP (by omega) ?_
      have hg : l[i + j]? = some l[i + j] := List.getElem?_eq_getElem c
      refine ⟨_, rfl, _, rfl, _, _, _, rfl, rfl, ls, atI_nat hg, _, _, rfl, rfl, _, rfl, ?_⟩
      rw [sep_in]
      have ed : l.drop (i + j) = l[i + j] :: l.drop (i + j + 1) := List.drop_eq_getElem_cons c
      cases hsep : isSep l[i + j] with
      | true =>
        refine iteF ?_
        have e0 : (itm (l.drop (i + j))).length = 0 := by
          rw [ed]
          unfold itm
          rw [List.takeWhile_cons, hsep]
          rfl
        rw [hj, e0] at q
        exact ⟨_, rfl, q⟩
      | false =>
        refine iteT ?_
        have e1 : (itm (l.drop (i + j))).length = 1 + (itm (l.drop (i + (j + 1)))).length := by
          rw [ed]
          unfold itm
          rw [List.takeWhile_cons, hsep]
          show _ + 1 = _
          rw [show i + j + 1 = i + (j + 1) by omega]
          omega
        refine ⟨fun σ' H' => H' = H1 ∧ σ' = [some (.str (SX.S l)), some (.int i), some (.int ((i + (j + 1) : Nat) : Int))], ?_, ?_⟩
        · rintro σ' H' ⟨rfl, rfl⟩
          exact ⟨l.length - (i + (j + 1)), by omega, rfl, j + 1, rfl, by omega, by omega, rfl⟩
        · refine ⟨_, rfl, _, _, rfl, rfl, rfl, ?_⟩
          show [_, _, some (V.int (((i + j : Nat) : Int) + 1))] = _
          rw [show ((i + j : Nat) : Int) + 1 = ((i + (j + 1) : Nat) : Int) by omega]
    · refine ifN (by omega) ?_
      have e0 : l.drop (i + j) = [] := List.drop_eq_nil_of_le (by omega)
      rw [hj, e0] at q
      exact ⟨_, rfl, q⟩
theorem ok_item_end {P : Program} {w : World} {K : PySem.W.Frag} {mg : Str → Option Value} {base : Heap} (T : Env K mg) : Fc P w K mg base 1 (He.ga K "item_end") [] (sp_item_end K ) := by
  obtain ⟨fd, D, F⟩ := fb_item_end T
  exact F.all (D.bindsN fun _ _ _ _ _ _ us hl => match us, hl with | [_, _], _ => rfl)
end
section
theorem cut_one (l : List Nat) : cutS (SX.S l) none (some 1) = SX.S (l.take 1) := Mo.cut_to l 1
theorem cut_rest (l : List Nat) : cutS (SX.S l) (some 1) none = SX.S (l.drop 1) := Mo.cut_from l 1
theorem ovW3 (w0 w1 w2 : List Nat) : ovWords [w0, w1, w2] = if w0 = [] ∧ w1.take 1 = [120] ∧ w2.take 1 = [43] then (match numIn (w1.drop 1), numIn (w2.drop 1) with
    | some m, some s => some (m, s)
    | _, _ => none) else none := rfl
def sp_over_in (K : PySem.W.Frag) : Sp := fun vs H Q E => ∃ (p : Addr) (as : List Addr) (ts : List Tr) (l : List Nat), vs = [.ref p, .str (SX.S l)] ∧ H p = some (.lst (as.map V.ref)) ∧ ShsAt K H ts as ∧ nestL ts ≤ 8 ∧ okL_ ts ∧ ts.length ≤ 20000 ∧ l.length ≤ 600 ∧
  (∀ m s : Nat, ovTail l = some (m, s) → ovB ts (.int (m : Nat)) (.int (s : Nat)) = true → ∀ a H', Ex H H' → H a = none → ShAt K H' (.ov ts m s) a → Q (.ref a) H') ∧ ((∀ m s : Nat, ovTail l = some (m, s) → ovB ts (.int (m : Nat)) (.int (s : Nat)) = false) → ∀ H', Ex H H' → E (.ref (He.ga K "NoPiece")) none H')
theorem fb_over_in {P : Program} {w : World} {K : PySem.W.Frag} {mg : Str → Option Value} {base : Heap} (T : Env K mg) : ∃ fd, FunD K "over_in" "over_in" (defArgs s_over_in) (defBody s_over_in) (defScope s_over_in) [] [] (He.ga K "over_in") fd ∧ Fb P w K mg base 70 (He.ga K "over_in") fd ["parts", "tail"] (sp_over_in K) := by
  obtain ⟨fd, F⟩ := T.f_over_in
  refine ⟨fd, F, fb_of F sc_over_in (fun vs H Q E h => ?_) (fun cdv A outer s H vs Q E hr h => ?_)⟩
  · obtain ⟨p, as, ts, l, rfl, _⟩ := h
    rfl
  · obtain ⟨p, as, ts, l, rfl, hp, hA, hn, hok, hlt, hl, q, qe⟩ := h
    refine ⟨_, (pss_cons (ps_set (i := 2) sc_over_in.nd rfl (Or.inl rfl) (pe_split (pv 1) pe_str))
      (pss_cons (ps_if (PW.pt (pw_or (pt_cmpR op_ne (pe_callB call_len (by rfl) T.n_len (by decide +kernel) (pa_cons (pv 2) pa_nil)) pe_int (nomark _)) (pw_or (pt_cmpR op_ne (pe_ix ix_list (pv 2) pe_int (fun _ _ => rfl)) pe_str (nomark _)) (pw_or (pt_cmpR op_ne (pe_slice sl_str (pe_ix ix_list (pv 2) pe_int (fun _ _ => rfl)) po_none (po_some pe_int)) pe_str (nomark _)) (pw_or1 (pt_cmpR op_ne (pe_slice sl_str (pe_ix ix_list (pv 2) pe_int (fun _ _ => rfl)) po_none (po_some pe_int)) pe_str (nomark _)))))))
      (pss_one (ps_raise rfl (takes_of rfl rfl rfl rfl) (pmk_own PySem.F.excBase_ValueError T.x_NoPiece.x T.g_NoPiece T.x_NoPiece.kp (raises_own T.x_NoPiece.sub T.x_NoPiece.ty) rfl)))
      pss_nil)
      (pss_one (ps_ret (c_make T.mk_Over (ok_Over_init T) (hr.mono (by decide)) T.g_Over (takes_of rfl rfl rfl rfl) (pa_cons (pv 0) (pa_cons (c_call (ok_number_in T) (hr.mono (by decide)) T.g_number_in T.k_number_in (takes_of rfl rfl rfl rfl) (pa_cons (pe_slice sl_str (pe_ix ix_list (pv 2) pe_int (fun _ _ => rfl)) (po_some pe_int) po_none) pa_nil)) (pa_cons (c_call (ok_number_in T) (hr.mono (by decide)) T.g_number_in T.k_number_in (takes_of rfl rfl rfl rfl) (pa_cons (pe_slice sl_str (pe_ix ix_list (pv 2) pe_int (fun _ _ => rfl)) (po_some pe_int) po_none) pa_nil)) pa_nil)))))))), ?_⟩
    have ls : (SX.S l).length ≤ sizeLine := sz_big (by rw [SX.S_len]; omega)
    refine ⟨_, rfl, ⟨_, rfl⟩, _, _, rfl, rfl, rfl, (sz_big (by rw [SX.S_len]; omega)), ?_⟩
    rw [show Str.ofString " " = SX.S [32] from rfl, SX.split_S (by decide) (by decide)]
    obtain ⟨wl, wn⟩ := Mo.spl_le 32 l.length l (Nat.le_refl _)
    unfold ovTail at q qe
    generalize TL.spl [32] 0 [] l = ws at wl wn q qe ⊢
    refine fun w nw => ?_
    have X1 := ex_new (o := .lst ((ws.map SX.S).map V.str)) nw
    have hw : upd H w (.lst ((ws.map SX.S).map V.str)) w = some (.lst ((ws.map SX.S).map V.str)) := upd_same
    have hp1 := X1 _ _ hp
    have hA1 := hA.mono X1
    generalize upd H w (.lst ((ws.map SX.S).map V.str)) = H1 at X1 hw hp1 hA1 ⊢
    refine ⟨_, rfl, _, _, rfl, .inl ⟨_, sq_lst hw, rfl⟩, rfl, _, rfl, ?_⟩
    by_cases c3 : ws.length = 3
    · refine ifnP (vint_eq (by simp [c3])) ?_
      obtain ⟨w0, w1, w2, rfl⟩ : ∃ a b c, ws = [a, b, c] := by
        match ws, c3 with
        | [a, b, c], _ => exact ⟨a, b, c, rfl⟩
      have l1 := wl w1 (by simp)
      have l2 := wl w2 (by simp)
      have g0 : atI ((List.map SX.S [w0, w1, w2]).map V.str) 0 = some (.str (SX.S w0)) := atI_nat (j := 0) rfl
      have g1 : atI ((List.map SX.S [w0, w1, w2]).map V.str) 1 = some (.str (SX.S w1)) := atI_nat (j := 1) rfl
      have g2 : atI ((List.map SX.S [w0, w1, w2]).map V.str) 2 = some (.str (SX.S w2)) := atI_nat (j := 2) rfl
      have s1 : (SX.S w1).length ≤ sizeLine := sz_big (by rw [SX.S_len]; omega)
      have s2 : (SX.S w2).length ≤ sizeLine := sz_big (by rw [SX.S_len]; omega)
      refine ⟨_, rfl, _, _, _, _, rfl, rfl, (sq_lst hw), rfl, rfl, _, rfl, ?_⟩
      try dsimp only [tNil]
      by_cases d0 : w0 = []
      · refine ifnP (by rw [d0]; rfl) ?_
        refine ⟨_, rfl, _, _, _, _, rfl, rfl, (sq_lst hw), rfl, _, rfl, _, rfl, s1, rfl, _, rfl, ?_⟩
        try dsimp only [tNil]
        rw [cut_one]
        by_cases d1 : w1.take 1 = [120]
        · refine ifnP (by rw [d1]; rfl) ?_
          refine ⟨_, rfl, _, _, _, _, rfl, rfl, (sq_lst hw), rfl, _, rfl, _, rfl, s2, rfl, _, rfl, ?_⟩
          try dsimp only [tNil]
          rw [cut_one]
          by_cases d2 : w2.take 1 = [43]
          · refine ifnP (by rw [d2]; rfl) ?_
            rw [ovW3, if_pos ⟨d0, d1, d2⟩] at q qe
            refine ⟨_, rfl, _, rfl, _, _, _, _, rfl, rfl, (sq_lst hw), rfl, _, rfl, _, rfl, s1, ?_⟩
            try dsimp only [tNil]
            rw [cut_rest]
            refine ⟨_, rfl, ?_⟩
            try dsimp only [tNil]
            refine ⟨by rw [List.length_drop]; omega, fun m em H2 X2 => ?_, fun em H2 X2 => qe (fun m s e => by rw [em] at e; cases e) H2 (X1.trans X2)⟩
            have X02 := X1.trans X2
            refine ⟨_, rfl, _, _, _, _, rfl, rfl, (sq_lst (X2 _ _ hw)), rfl, _, rfl, _, rfl, s2, ?_⟩
            try dsimp only [tNil]
            rw [cut_rest]
            refine ⟨_, rfl, by rw [List.length_drop]; omega, fun n en H3 X3 => ?_, fun en H3 X3 => qe (fun m s e => by rw [em, en] at e; cases e) H3 (X02.trans X3)⟩
            rw [em, en] at q qe
            have X03 := X02.trans X3
            refine fun x dx nx nd ne => ⟨rfl, x, dx, p, as, ts, .int (m : Nat), .int (n : Nat), H3, rfl, upd_same, nx, ex_made nx nd ne, .inl (X03 _ _ hp), hA.mono X03, hn, hok, by omega, by omega, cl_int _, cl_int _, fun m' s' hb em' es' H4 O4 hS => ⟨rfl, ?_⟩, fun hb H4 O4 => ?_⟩
            · have X4 : Ex H3 H4 := fun b o e => O4 b o (ne_of_none e nx) (ex_made nx nd ne _ _ e)
              have e1 : m = m' := by injection em' with em'; omega
              have e2 : n = s' := by injection es' with es'; omega
              subst e1 e2
              exact q m n rfl hb x H4 (X03.trans X4) (ex_fresh X03 nx) hS
            · have X4 : Ex H3 H4 := fun b o e => O4 b o (ne_of_none e nx) (ex_made nx nd ne _ _ e)
              refine qe (fun m' s' e => ?_) H4 (X03.trans X4)
              cases e
              exact hb
          · refine ifnN (vstr_ne (b := [43]) d2) ?_
            refine qe (fun m s e => ?_) H1 X1
            rw [ovW3, if_neg (fun z => d2 z.2.2)] at e
            cases e
        · refine ifnN (vstr_ne (b := [120]) d1) ?_
          refine iteT (qe (fun m s e => ?_) H1 X1)
          rw [ovW3, if_neg (fun z => d1 z.2.1)] at e
          cases e
      · refine ifnN (vstr_ne (b := []) d0) ?_
        refine iteT (qe (fun m s e => ?_) H1 X1)
        rw [ovW3, if_neg (fun z => d0 z.1)] at e
        cases e
    · refine ifnN (vint_ne (by simp; omega)) ?_
      refine iteT (qe (fun m s e => ?_) H1 X1)
      unfold ovWords at e
      split at e
      · exact absurd rfl c3
      · cases e
theorem ok_over_in {P : Program} {w : World} {K : PySem.W.Frag} {mg : Str → Option Value} {base : Heap} (T : Env K mg) : Fc P w K mg base 70 (He.ga K "over_in") [] (sp_over_in K ) := by
  obtain ⟨fd, D, F⟩ := fb_over_in T
  exact F.all (D.bindsN fun _ _ _ _ _ _ us hl => match us, hl with | [_, _], _ => rfl)
end
section
theorem sep2_in (c : Nat) : decide (c ∈ (Str.ofString ", ").cps.toList) = decide (c = 44 ∨ c = 32) := by
  have e : (Str.ofString ", ").cps.toList = [44, 32] := rfl
  rw [e]
  apply decide_eq_decide.mpr
  simp
def sp_read_on (K : PySem.W.Frag) : Sp := fun vs H Q E => ∃ (l : List Nat) (i c : Nat) (R : Addr) (rs : List Addr) (st : List (List Tr)), vs = [.str (SX.S l), .int i, .ref R] ∧ l[i]? = some c ∧ l.length ≤ 10000 ∧ (itm (l.drop (i + 1))).length ≤ 500 ∧
  H R = some (.lst (rs.reverse.map V.ref)) ∧ RowsAt K H st rs ∧ (R :: rs).Nodup ∧ st ≠ [] ∧ st.length ≤ 20 ∧ (∀ row ∈ st, goodRow row) ∧
  (∀ k st', stp c (l.drop (i + 1)) st = some (k, st') → ∀ rs' H', Rch R rs H H' → H' R = some (.lst (rs'.reverse.map V.ref)) → RowsAt K H' st' rs' → (R :: rs').Nodup → (∀ r ∈ rs', r ∈ rs ∨ H r = none) → Q (.int ((i + k : Nat) : Int)) H') ∧
  (stp c (l.drop (i + 1)) st = none → ∀ H', Rch R rs H H' → E (.ref (He.ga K "NoPiece")) none H')
theorem fb_read_on {P : Program} {w : World} {K : PySem.W.Frag} {mg : Str → Option Value} {base : Heap} (T : Env K mg) : ∃ fd, FunD K "read_on" "read_on" (defArgs s_read_on) (defBody s_read_on) (defScope s_read_on) [] [] (He.ga K "read_on") fd ∧ Fb P w K mg base 75 (He.ga K "read_on") fd ["text", "at", "rows"] (sp_read_on K) := by
  obtain ⟨fd, F⟩ := T.f_read_on
  refine ⟨fd, F, fb_of F sc_read_on (fun vs H Q E h => ?_) (fun cdv A outer s H vs Q E hr h => ?_)⟩
  · obtain ⟨l, i, c, R, rs, st, rfl, _⟩ := h
    rfl
  · obtain ⟨l, i, c, R, rs, st, rfl, hc, hl, hit, hR, hrs, nd, ne, hst, hgood, q, qe⟩ := h
    refine ⟨_, (pss_cons (ps_if (pt_cmpR op_in_sign (pe_ix ix_str (pv 0) (pv 1) (fun _ _ => rfl)) pe_str (by rfl))
      (pss_one (ps_ret (pe_op op_add (pv 1) pe_int)))
      pss_nil)
      (pss_cons (ps_if (pt_cmpR op_eq (pe_ix ix_str (pv 0) (pv 1) (fun _ _ => rfl)) pe_str (nomark _))
      (pss_cons (ps_if (pt_cmpR op_gt (pe_callB call_len (by rfl) T.n_len (by decide +kernel) (pa_cons (pv 2) pa_nil)) (pe_k T.v_MOST_NESTED) (nomark _))
      (pss_one (ps_raise rfl (takes_of rfl rfl rfl rfl) (pmk_own PySem.F.excBase_ValueError T.x_NoPiece.x T.g_NoPiece T.x_NoPiece.kp (raises_own T.x_NoPiece.sub T.x_NoPiece.ty) rfl)))
      pss_nil)
      (pss_cons (ps_expr (pe_bm PySem.F.plainAttrs_list PySem.F.slot_list_append PySem.F.type_list_append mt_append (pv 2) (pa_cons (pe_lst pa_nil) pa_nil)))
      (pss_one (ps_ret (pe_op op_add (pv 1) pe_int)))))
      pss_nil)
      (pss_cons (ps_set (i := 3) sc_read_on.nd rfl (Or.inl rfl) (c_call (ok_item_end T) (hr.mono (by decide)) T.g_item_end T.k_item_end (takes_of rfl rfl rfl rfl) (pa_cons (pv 0) (pa_cons (pe_op op_add (pv 1) pe_int) pa_nil))))
      (Evl.pss_cut (ps_if (pt_cmpR op_eq (pe_ix ix_str (pv 0) (pv 1) (fun _ _ => rfl)) pe_str (nomark _))
      (pss_cons (ps_if (pt_cmpR op_eq (pe_callB call_len (by rfl) T.n_len (by decide +kernel) (pa_cons (pv 2) pa_nil)) pe_int (nomark _))
      (pss_one (ps_raise rfl (takes_of rfl rfl rfl rfl) (pmk_own PySem.F.excBase_ValueError T.x_NoPiece.x T.g_NoPiece T.x_NoPiece.kp (raises_own T.x_NoPiece.sub T.x_NoPiece.ty) rfl)))
      pss_nil)
      (pss_cons (ps_set (i := 4) sc_read_on.nd rfl (Or.inl rfl) (pe_bm0 PySem.F.plainAttrs_list PySem.F.slot_list_pop PySem.F.type_list_pop mt_pop (pv 2)))
      (pss_one (ps_expr (pe_bm PySem.F.plainAttrs_list PySem.F.slot_list_append PySem.F.type_list_append mt_append (pe_ix ix_list (pv 2) (pe_un un_neg pe_int) (fun _ _ => rfl)) (pa_cons (c_call (ok_over_in T) (hr.mono (by decide)) T.g_over_in T.k_over_in (takes_of rfl rfl rfl rfl) (pa_cons (pv 4) (pa_cons (pe_slice sl_str (pv 0) (po_some (pe_op op_add (pv 1) pe_int)) (po_some (pv 3))) pa_nil))) pa_nil))))))
      (pss_one (ps_expr (pe_bm PySem.F.plainAttrs_list PySem.F.slot_list_append PySem.F.type_list_append mt_append (pe_ix ix_list (pv 2) (pe_un un_neg pe_int) (fun _ _ => rfl)) (pa_cons (c_call (ok_at_in T) (hr.mono (by decide)) T.g_at_in T.k_at_in (takes_of rfl rfl rfl rfl) (pa_cons (pe_slice sl_str (pv 0) (po_some (pv 1)) (po_some (pv 3))) pa_nil)) pa_nil)))))
      (pss_one (ps_ret (pv 3))))))), ?_⟩
    have ls : (SX.S l).length ≤ sizeLine := sz_big (by rw [SX.S_len]; omega)
    have hi : i < l.length := (List.getElem?_eq_some_iff.mp hc).1
    have hat : atI l ((i : Nat) : Int) = some c := atI_nat hc
    have hlen := hrs.len
    refine ⟨_, rfl, _, rfl, _, _, _, rfl, rfl, ls, hat, _, _, rfl, rfl, _, rfl, ?_⟩
    rw [sep2_in]
    unfold stp at q qe
    by_cases c1 : c = 44 ∨ c = 32
    · refine ifP c1 ?_
      rw [if_pos c1] at q
      refine ⟨_, rfl, _, _, rfl, rfl, ?_⟩
      exact q 1 st rfl rs H (fun b o _ _ e => e) hR hrs nd (fun r hr => .inl hr)
    refine ifN c1 ?_
    rw [if_neg c1] at q qe
    refine ⟨_, rfl, _, rfl, _, _, _, rfl, rfl, ls, hat, rfl, _, rfl, ?_⟩
    by_cases c2 : c = 40
    · refine ifP (by rw [c2]; rfl) ?_
      rw [if_pos c2] at q qe
      refine ⟨_, rfl, _, _, rfl, (.inl ⟨_, ⟨(sq_lst hR), rfl⟩⟩), _, _, rfl, rfl, _, rfl, ?_⟩
      try dsimp only [tNil]
      by_cases c3 : 8 < st.length
      · refine ifP (by simp; omega) ?_
        exact qe (if_pos c3) H (fun b o _ _ e => e)
      refine ifN (by simp; omega) ?_
      rw [if_neg c3] at q
      refine ⟨_, rfl, (.inl ⟨rfl, ⟨_, (sq_lst hR)⟩⟩), (by decide), ?_⟩
      intro n nn
      have X1 := ex_new (o := .lst []) nn
      have hR1 := X1 _ _ hR
      have Rn : R ≠ n := ne_of_none hR nn
      have hl2 : (List.map V.ref rs.reverse).length ≤ 16000000 := by simp; omega
      refine ⟨_, _, _, rfl, rfl, hR1, sz_lt hl2, _, rfl, _, _, rfl, rfl, ?_⟩
      have O1 : Oth R (upd H n (.lst [])) (upd (upd H n (.lst [])) R (.lst (rs.reverse.map V.ref ++ [.ref n]))) := (Oth.refl _ _).upd
      have nrs : n ∉ rs := fun z => by
        obtain ⟨xs, e⟩ := hrs.some z
        rw [nn] at e
        cases e
      refine q 1 ([] :: st) rfl (n :: rs) _ (fun b o hb hb2 e => ?_) ?_ ⟨n, rs, rfl, ⟨[], ?_, ?_⟩, ?_⟩ ?_ (fun r hr => ?_)
      · exact O1 _ _ hb (X1 _ _ e)
      · rw [upd_same, List.reverse_cons, List.map_append]
        rfl
      · exact O1 _ _ Rn.symm upd_same
      · unfold ShsAt
        rfl
      · exact (hrs.mono X1).oth O1 (fun ob e => by rw [hR1] at e; cases e; exact ⟨_, rfl⟩) (List.nodup_cons.mp nd).1
      · refine List.nodup_cons.mpr ⟨fun z => ?_, List.nodup_cons.mpr ⟨nrs, (List.nodup_cons.mp nd).2⟩⟩
        rcases List.mem_cons.mp z with z | z
        · exact Rn z
        · exact (List.nodup_cons.mp nd).1 z
      · rcases List.mem_cons.mp hr with rfl | hr
        · exact .inr nn
        · exact .inl hr
    refine ifN (vch_ne (d := 40) c2) ?_
    rw [if_neg c2] at q qe
    refine ⟨_, rfl, _, rfl, _, _, rfl, rfl, _, _, rfl, ?_⟩
    try dsimp only [tNil]
    refine ⟨by omega, by omega, ?_⟩
    have ei : i + 1 + (itm (l.drop (i + 1))).length = i + (1 + (itm (l.drop (i + 1))).length) := by omega
    rw [ei]
    have hbound : i + (1 + (itm (l.drop (i + 1))).length) ≤ l.length := by
      have := itm_len (l.drop (i + 1))
      rw [List.length_drop] at this
      omega
    obtain ⟨top, stq, rfl⟩ := List.exists_cons_of_ne_nil ne
    obtain ⟨r0, rq, rfl, ⟨as, hr0, hS⟩, hrq⟩ := id hrs
    have hg0 := hgood top List.mem_cons_self
    have atl : atI ((r0 :: rq).reverse.map V.ref) (-1) = some (.ref r0) := by
      rw [List.reverse_cons, List.map_append]
      exact atI_last _ _
    have nR : R ≠ r0 := fun z => (List.nodup_cons.mp nd).1 (by rw [z]; exact List.mem_cons_self)
    have nR2 : R ∉ rq := fun z => (List.nodup_cons.mp nd).1 (List.mem_cons_of_mem _ z)
    have n02 : r0 ∉ rq := (List.nodup_cons.mp (List.nodup_cons.mp nd).2).1
    refine ⟨fun σ' H' => ∃ st' rs' v4, stp c (l.drop (i + 1)) (top :: stq) = some (1 + (itm (l.drop (i + 1))).length, st') ∧ σ' = [some (.str (SX.S l)), some (.int i), some (.ref R), some (.int ((i + (1 + (itm (l.drop (i + 1))).length) : Nat) : Int)), v4] ∧ Rch R (r0 :: rq) H H' ∧ H' R = some (.lst (rs'.reverse.map V.ref)) ∧ RowsAt K H' st' rs' ∧ (R :: rs').Nodup ∧ ∀ r ∈ rs', r ∈ r0 :: rq ∨ H r = none, ?_, ?_⟩
    · refine ⟨_, rfl, _, rfl, _, _, _, rfl, rfl, ls, hat, rfl, _, rfl, ?_⟩
      try dsimp only [tNil]
      by_cases c4 : c = 41
      · refine ifP (by rw [c4]; rfl) ?_
        rw [if_pos c4] at q qe
        refine ⟨_, rfl, _, _, rfl, (.inl ⟨_, ⟨(sq_lst hR), rfl⟩⟩), rfl, _, rfl, ?_⟩
        dsimp only [tNil]
        cases stq with
        | nil =>
          have eq0 : rq = [] := hrq
          subst eq0
          exact ifP rfl (qe rfl H fun b o _ _ e => e)
        | cons nxt rest =>
        obtain ⟨r1, rq2, rfl, ⟨as1, hr1, hS1⟩, hrq2⟩ := id hrq
        refine ifN (vint_ne (by simp; omega)) ?_
        have el : (r0 :: r1 :: rq2).reverse.map V.ref = (r1 :: rq2).reverse.map V.ref ++ [.ref r0] := by
          rw [List.reverse_cons, List.map_append]
          rfl
        have hR' := hR
        rw [el] at hR'
        have O2 : Oth R H (upd H R (.lst ((r1 :: rq2).reverse.map V.ref))) := (Oth.refl _ _).upd
        have hlR : ∀ ob, H R = some ob → ∃ xs, ob = .lst xs := fun ob e => by
          rw [hR] at e
          cases e
          exact ⟨_, rfl⟩
        have nR1 : R ≠ r1 := fun z => nR2 (by rw [z]; exact List.mem_cons_self)
        refine ⟨_, rfl, (.inl ⟨rfl, ⟨_, (sq_lst hR')⟩⟩), R, _, .ref r0, rfl, rfl, hR', by simp, ?_⟩
        rw [List.dropLast_concat]
        have hR2 : upd H R (.lst ((r1 :: rq2).reverse.map V.ref)) R = some (.lst ((r1 :: rq2).reverse.map V.ref)) := upd_same
        have hr02 := O2 _ _ nR.symm hr0
        have hr12 := O2 _ _ nR1.symm hr1
        have hS2 := hS.oth O2 hlR
        have hS12 := hS1.oth O2 hlR
        have hrq22 := hrq2.oth O2 hlR (fun z => nR2 (List.mem_cons_of_mem _ z))
        have nd2 : (R :: r1 :: rq2).Nodup := List.nodup_cons.mpr ⟨nR2, (List.nodup_cons.mp (List.nodup_cons.mp nd).2).2⟩
        generalize upd H R (.lst ((r1 :: rq2).reverse.map V.ref)) = H2 at O2 hR2 hr02 hr12 hS2 hS12 hrq22 ⊢
        have atl2 : atI ((r1 :: rq2).reverse.map V.ref) (-1) = some (.ref r1) := by
          rw [List.reverse_cons, List.map_append]
          exact atI_last _ _
        have hg1 := hgood nxt (List.mem_cons_of_mem _ List.mem_cons_self)
        refine ⟨_, rfl, _, rfl, _, _, _, _, rfl, rfl, (sq_lst hR2), atl2, (.inl ⟨rfl, ⟨_, (sq_lst hr12)⟩⟩), _, rfl, _, rfl, _, rfl, _, _, rfl, rfl, _, rfl, _, rfl, _, rfl, _, rfl, ls, ?_⟩
        dsimp only [tNil]
        rw [show ((i : Nat) : Int) + 1 = ((i + 1 : Nat) : Int) by omega, Mo.cut_mid]
        rw [show i + (1 + (itm (l.drop (i + 1))).length) - (i + 1) = (itm (l.drop (i + 1))).length by omega, itm_take]
        have put : ∀ (H1 : Hp), Ex H2 H1 → Rch R (r0 :: r1 :: rq2) H H1 := fun H1 X1 b o hb _ e => X1 _ _ (O2 _ _ hb e)
        refine ⟨r0, as, top, _, rfl, hr02, hS2, hg0.2.1, hg0.1, by have := hg0.2.2; omega, by omega, fun m s hov hb a H1 X1 na hA => ?_, fun hno H1 X1 => qe ?_ H1 (put H1 X1)⟩
        · obtain ⟨k1, k2, k3⟩ := put_row X1 hR2 hr12 hS12 hrq22 nd2 hA
          refine ⟨r1, _, _, rfl, rfl, X1 _ _ hr12, sz_lt (by rw [List.length_map, hS1.len]; have := hg1.2.2; omega), (nxt ++ [Tr.ov top m s]) :: rest, r1 :: rq2, _, ?_, rfl, ?_, k2, k3, nd2, fun r hr => .inl (List.mem_cons_of_mem _ hr)⟩
          · unfold stp
            rw [if_neg c1, if_neg c2, if_pos c4]
            show (match ovTail (itm (l.drop (i + 1))) with
              | some (m, s) => if ovB top (.int (m : Nat)) (.int (s : Nat)) = true then some (1 + (itm (l.drop (i + 1))).length, (nxt ++ [Tr.ov top m s]) :: rest) else none
              | none => none) = _
            rw [hov]
            exact if_pos hb
          · exact fun b o hb hb2 e => k1 _ _ hb (fun z => hb2 (List.mem_cons_of_mem _ z)) (O2 _ _ hb e)
        · show (match ovTail (itm (l.drop (i + 1))) with
            | some (m, s) => if ovB top (.int (m : Nat)) (.int (s : Nat)) = true then some (1 + (itm (l.drop (i + 1))).length, (nxt ++ [Tr.ov top m s]) :: rest) else none
            | none => none) = none
          cases hov : ovTail (itm (l.drop (i + 1))) with
          | none => rfl
          | some p =>
            obtain ⟨m, s⟩ := p
            show (if ovB top (.int (m : Nat)) (.int (s : Nat)) = true then _ else none) = none
            rw [hno m s hov]
            rfl
      · refine ifN (vch_ne (d := 41) c4) ?_
        rw [if_neg c4] at q qe
        refine ⟨_, rfl, _, rfl, _, _, _, _, rfl, rfl, (sq_lst hR), atl, (.inl ⟨rfl, ⟨_, (sq_lst hr0)⟩⟩), _, rfl, _, rfl, _, rfl, _, rfl, _, rfl, _, rfl, ls, ?_⟩
        dsimp only [tNil]
        rw [Mo.cut_mid]
        have et : (l.drop i).take (i + (1 + (itm (l.drop (i + 1))).length) - i) = c :: itm (l.drop (i + 1)) := by
          have ed : l.drop i = c :: l.drop (i + 1) := by
            rw [List.drop_eq_getElem_cons hi]
            rw [List.getElem?_eq_getElem hi] at hc
            rw [Option.some.inj hc]
          rw [ed, show i + (1 + (itm (l.drop (i + 1))).length) - i = (itm (l.drop (i + 1))).length + 1 by omega, List.take_succ_cons, itm_take]
        rw [et]
        refine ⟨_, rfl, by rw [List.length_cons]; omega, fun n hn a H1 X1 na hA => ?_, fun hn H1 X1 => qe ?_ H1 (fun b o _ _ e => X1 _ _ e)⟩
        · obtain ⟨k1, k2, k3⟩ := put_row X1 hR hr0 hS hrq nd hA
          refine ⟨r0, _, _, rfl, rfl, X1 _ _ hr0, sz_lt (by rw [List.length_map, hS.len]; have := hg0.2.2; omega), (top ++ [Tr.at n]) :: stq, r0 :: rq, _, ?_, rfl, k1, k2, k3, nd, fun r hr => .inl hr⟩
          unfold stp
          rw [if_neg c1, if_neg c2, if_neg c4]
          show (match Mo.momOf (c :: itm (l.drop (i + 1))) with
            | some n => some (1 + (itm (l.drop (i + 1))).length, (top ++ [Tr.at n]) :: stq)
            | none => none) = _
          rw [hn]
        · show (match Mo.momOf (c :: itm (l.drop (i + 1))) with
            | some n => some (1 + (itm (l.drop (i + 1))).length, (top ++ [Tr.at n]) :: stq)
            | none => none) = none
          rw [hn]
    · rintro σ' H' ⟨st', rs', v4, e1, rfl, e2, e3, e4, e5, e6⟩
      refine ⟨_, rfl, ?_⟩
      unfold stp at e1
      rw [if_neg c1, if_neg c2] at e1
      exact q _ _ e1 rs' H' e2 e3 e4 e5 e6
theorem ok_read_on {P : Program} {w : World} {K : PySem.W.Frag} {mg : Str → Option Value} {base : Heap} (T : Env K mg) : Fc P w K mg base 75 (He.ga K "read_on") [] (sp_read_on K ) := by
  obtain ⟨fd, D, F⟩ := fb_read_on T
  exact F.all (D.bindsN fun _ _ _ _ _ _ us hl => match us, hl with | [_, _, _], _ => rfl)
end
section
abbrev GAP : Nat := 10 ^ 21
theorem okL_snoc {t : Tr} : ∀ {ts : List Tr}, okL_ ts → t.ok → okL_ (ts ++ [t])
  | [], _, h => by
    show okL_ [t]
    unfold okL_
    exact ⟨h, by unfold okL_; trivial⟩
  | x :: r, h, ht => by
    unfold okL_ at h
    show okL_ (x :: (r ++ [t]))
    unfold okL_
    exact ⟨h.1, okL_snoc h.2 ht⟩
theorem risB_snoc {t : Tr} : ∀ {ts : List Tr}, okL_ ts → risB ts = true → (ts ≠ [] → (momsL ts).getLastD 0 < t.moms.headD 0) → risB (ts ++ [t]) = true
  | [], _, _, _ => rfl
  | [x], h, _, hb => by
    have hb := hb (by simp)
    have e : momsL [x] = x.moms := by simp [momsL]
    rw [e] at hb
    show (decide (x.moms.getLastD 0 < t.moms.headD 0) && true) = true
    rw [decide_eq_true hb]
    rfl
  | x :: y :: r, h, hr, hb => by
    obtain ⟨h1, h2⟩ := risB_cons hr
    have hok : okL_ (y :: r) := by
      unfold okL_ at h
      exact h.2
    have e : momsL (x :: y :: r) = x.moms ++ momsL (y :: r) := by rw [momsL]
    have ih := risB_snoc hok h2 fun _ => by
      have hb := hb (by simp)
      rw [e, lastD_app (momsL_ne hok (by simp))] at hb
      exact hb
    show (decide (x.moms.getLastD 0 < y.moms.headD 0) && risB (y :: r ++ [t])) = true
    rw [decide_eq_true h1, ih]
    rfl
theorem momsL_snoc (ts : List Tr) (t : Tr) : momsL (ts ++ [t]) = momsL ts ++ t.moms := by
  have e : momsL [t] = t.moms := by simp [momsL]
  rw [momsL_app, e]
theorem at_lastN {ns : List Nat} (h : ns ≠ []) : atI (natV ns) (-1) = some (.int ((ns.getLastD 0 : Nat) : Int)) := by
  have e := List.dropLast_concat_getLast h
  have e2 : ns.getLastD 0 = ns.getLast h := by
    rw [List.getLastD_eq_getLast?, List.getLast?_eq_some_getLast h]
    rfl
  rw [e2]
  have e3 : natV ns = natV ns.dropLast ++ [.int ((ns.getLast h : Nat) : Int)] := by
    unfold natV
    rw [← List.map_singleton (f := fun n : Nat => V.int (n : Int)), ← List.map_append, e]
  rw [e3]
  exact atI_last _ _
theorem at_headN {ns : List Nat} (h : ns ≠ []) : atI (natV ns) 0 = some (.int ((ns.headD 0 : Nat) : Int)) := by
  cases ns with
  | nil => exact absurd rfl h
  | cons x r => exact atI_nat (j := 0) rfl
theorem nestL_le {d : Nat} : ∀ {ts : List Tr}, (∀ t ∈ ts, t.nest ≤ d) → nestL ts ≤ d
  | [], _ => by
    unfold nestL
    exact Nat.zero_le _
  | t :: r, h => by
    unfold nestL
    have h1 := h t List.mem_cons_self
    have h2 := nestL_le (ts := r) fun x hx => h x (List.mem_cons_of_mem _ hx)
    exact Nat.max_le.mpr ⟨h1, h2⟩
theorem over_bound {at_ la st m' len V G : Nat} (h1 : la + 1 ≤ at_ + len * V) (h2 : st ≤ len * V + G) (hl : 1 ≤ len) : la + m' * st + 1 ≤ at_ + (m' + 1) * len * (V + G) := by
  have e1 : m' * st ≤ m' * (len * V) + m' * G := by
    rw [← Nat.mul_add]
    exact Nat.mul_le_mul_left _ h2
  have e2 : (m' + 1) * len * (V + G) = m' * (len * V) + len * V + (m' + 1) * len * G := by
    rw [Nat.mul_add, Nat.mul_assoc (m' + 1) len V, Nat.add_mul m' 1 (len * V), Nat.one_mul]
  have e3 : m' * G ≤ (m' + 1) * len * G := Nat.mul_le_mul_right _ (Nat.le_trans (Nat.le_succ _) (Nat.le_mul_of_pos_right _ hl))
  omega
end
section
theorem okL_app : ∀ {a b : List Tr}, okL_ a → okL_ b → okL_ (a ++ b)
  | [], b, _, h => h
  | t :: a, b, h1, h2 => by
    unfold okL_ at h1
    show okL_ (t :: (a ++ b))
    unfold okL_
    exact ⟨h1.1, okL_app h1.2 h2⟩
theorem nestL_app (a b : List Tr) : nestL (a ++ b) = max (nestL a) (nestL b) := by
  induction a with
  | nil => simp [nestL]
  | cons t a ih => simp [nestL, ih, Nat.max_assoc]
theorem okL_one {t : Tr} (h : t.ok) : okL_ [t] := by
  unfold okL_
  exact ⟨h, by unfold okL_; trivial⟩
theorem nestL_one (t : Tr) : nestL [t] = t.nest := by simp [nestL]
theorem pcsL_one (t : Tr) : pcsL [t] = t.pcs := by simp [pcsL]
theorem momsL_one (t : Tr) : momsL [t] = t.moms := by simp [momsL]
end
section
def fitS (st : List (List Tr)) : Prop := ∀ row ∈ st, okL_ row ∧ nestL row ≤ 8 ∧ fitL row
def pcsS (st : List (List Tr)) : Nat := (st.map pcsL).sum
theorem fitL_app : ∀ {a b : List Tr}, fitL a → fitL b → fitL (a ++ b)
  | [], b, _, h => h
  | t :: a, b, h1, h2 => by
    unfold fitL at h1
    show fitL (t :: (a ++ b))
    unfold fitL
    exact ⟨h1.1, fitL_app h1.2 h2⟩
theorem fitL_one {t : Tr} (h : t.fit) : fitL [t] := by
  unfold fitL
  exact ⟨h, by unfold fitL; trivial⟩
/-- an Over that may be made is one -/
theorem ovB_ok {ts : List Tr} {m s : Nat} (hok : okL_ ts) (h : ovB ts (.int (m : Nat)) (.int (s : Nat)) = true) : (Tr.ov ts m s).ok ∧ (Tr.ov ts m s).nest ≤ 8 := by
  unfold ovB at h
  obtain ⟨h1, h⟩ := Bool.and_eq_true_iff.mp h
  obtain ⟨h2, h⟩ := Bool.and_eq_true_iff.mp h
  obtain ⟨h3, h⟩ := Bool.and_eq_true_iff.mp h
  obtain ⟨h4, h⟩ := Bool.and_eq_true_iff.mp h
  obtain ⟨h5, h⟩ := Bool.and_eq_true_iff.mp h
  obtain ⟨h6, h7⟩ := Bool.and_eq_true_iff.mp h
  have h5 := of_decide_eq_true h5
  have h6 := of_decide_eq_true h6
  have h7 := of_decide_eq_true h7
  have h3 : (2 : Int) ≤ ((m : Nat) : Int) := of_decide_eq_true (Bool.and_eq_true_iff.mp h3).2
  have h4 : (1 : Int) ≤ ((s : Nat) : Int) := of_decide_eq_true (Bool.and_eq_true_iff.mp h4).2
  refine ⟨?_, by unfold Tr.nest; omega⟩
  unfold Tr.ok
  refine ⟨of_decide_eq_true h2, by omega, by omega, ?_, by omega, ris_sorted hok h1, hok⟩
  have : ((m * (momsL ts).length : Nat) : Int) ≤ 1440 := by rw [Int.natCast_mul]; exact h6
  omega
theorem clkOf_lt {t : List Nat} {m : Nat} (h : Mo.clkOf t = some m) : m < 1440 := by
  unfold Mo.clkOf at h
  split at h
  · cases h
  · split at h
    · split at h
      · split at h
        · rename_i hh
          cases h
          omega
        · cases h
      · cases h
    · cases h
theorem num_lt {w : List Nat} {n : Nat} (h : Mo.num? w = some n) : n < 10 ^ w.length := by
  unfold Mo.num? at h
  split at h
  · rename_i c
    cases h
    exact Mo.val_lt (Mo.figs_iff.mp (Bool.and_eq_true_iff.mp c).1).2
  · cases h
theorem pow_le {a b : Nat} (h : a ≤ b) : 10 ^ a ≤ 10 ^ b := Nat.pow_le_pow_right (by decide) h
theorem momOf_lt {w : List Nat} {n : Nat} (h : Mo.momOf w = some n) (hl : w.length ≤ 251) : n < 10 ^ 255 := by
  unfold Mo.momOf at h
  split at h
  · exact Nat.lt_trans (clkOf_lt h) (by decide +kernel)
  · rename_i a t hc
    have el := (Mo.rcut_is hc).1
    split at h
    · cases h
    · rename_i d hd
      obtain ⟨m, hm, e⟩ := Option.map_eq_some_iff.mp h
      have h1 := clkOf_lt hm
      have h2 : d < 10 ^ a.length := by
        unfold Mo.dayOf at hd
        split at hd
        · cases hd
        · exact num_lt hd
      have h3 : a.length ≤ 250 := by
        have := congrArg List.length el
        simp at this
        omega
      have h4 : d < 10 ^ 250 := Nat.lt_of_lt_of_le h2 (pow_le h3)
      have h5 : (10 : Nat) ^ 250 * 1440 + 1440 ≤ 10 ^ 255 := by decide +kernel
      have h6 : d * 1440 ≤ 10 ^ 250 * 1440 := Nat.mul_le_mul_right _ (Nat.le_of_lt h4)
      omega
theorem numIn_lt {w : List Nat} {n : Nat} (h : numIn w = some n) (hl : w.length ≤ 255) : n < 10 ^ 255 := by
  unfold numIn at h
  split at h
  · rename_i c
    cases h
    exact Nat.lt_of_lt_of_le (Mo.val_lt (Mo.figs_iff.mp c).2) (pow_le hl)
  · cases h
theorem ovTail_lt {w : List Nat} {m s : Nat} (h : ovTail w = some (m, s)) (hl : w.length ≤ 250) : m < 10 ^ 255 ∧ s < 10 ^ 255 := by
  obtain ⟨wl, _⟩ := Mo.spl_le 32 w.length w (Nat.le_refl _)
  unfold ovTail at h
  generalize TL.spl [32] 0 [] w = ws at h wl
  unfold ovWords at h
  split at h
  · rename_i w0 w1 w2
    have l1 := wl w1 (by simp)
    have l2 := wl w2 (by simp)
    split at h
    · split at h
      · rename_i a b ha hb
        cases h
        exact ⟨numIn_lt ha (by rw [List.length_drop]; omega), numIn_lt hb (by rw [List.length_drop]; omega)⟩
      · cases h
    · cases h
  · cases h
theorem fitS_cons {row : List Tr} {st : List (List Tr)} (h1 : okL_ row ∧ nestL row ≤ 8 ∧ fitL row) (h2 : fitS st) : fitS (row :: st) := fun x hx => by
  rcases List.mem_cons.mp hx with rfl | hx
  · exact h1
  · exact h2 x hx
theorem stp_good {c : Nat} {r : List Nat} {st st' : List (List Tr)} {k : Nat} (h : stp c r st = some (k, st')) (hf : fitS st) (hl : st.length ≤ 9) (hi : (itm r).length ≤ 250) (ne : st ≠ []) : fitS st' ∧ st'.length ≤ 9 ∧ st' ≠ [] ∧ pcsS st' ≤ pcsS st + 1 ∧ 1 ≤ k ∧ k ≤ 1 + r.length := by
  have hr := itm_len r
  unfold stp at h
  split at h
  · cases h
    exact ⟨hf, hl, ne, by omega, by omega, by omega⟩
  split at h
  · split at h
    · cases h
    · cases h
      refine ⟨fitS_cons ⟨by unfold okL_; trivial, by simp [nestL], by unfold fitL; trivial⟩ hf, by rw [List.length_cons]; omega, by simp, ?_, by omega, by omega⟩
      show pcsS ([] :: st) ≤ _
      simp [pcsS, pcsL]
  split at h
  · split at h
    · rename_i top nxt rest
      split at h
      · rename_i m s hov
        split at h
        · rename_i hb
          cases h
          obtain ⟨ho, hn⟩ := ovB_ok (hf top (by simp)).1 hb
          have hlt := ovTail_lt hov hi
          have h1 := hf nxt (by simp)
          have ht := hf top (by simp)
          refine ⟨fitS_cons ⟨okL_app h1.1 (okL_one ho), by rw [nestL_app, nestL_one]; omega, fitL_app h1.2.2 (fitL_one (by unfold Tr.fit; exact ⟨hlt.1, hlt.2, ht.2.2⟩))⟩ (fun x hx => hf x (by simp [hx])), by simp at hl ⊢; omega, by simp, ?_, by omega, by omega⟩
          simp only [pcsS, List.map_cons, List.sum_cons, pcsL_app, pcsL_one]
          unfold Tr.pcs
          omega
        · cases h
      · cases h
    · cases h
  · split at h
    · rename_i top rest
      split at h
      · rename_i n hn
        cases h
        have h1 := hf top (by simp)
        refine ⟨fitS_cons ⟨okL_app h1.1 (okL_one (by unfold Tr.ok; trivial)), by rw [nestL_app, nestL_one]; unfold Tr.nest; omega, fitL_app h1.2.2 (fitL_one (by unfold Tr.fit; exact momOf_lt hn (by rw [List.length_cons]; omega)))⟩ (fun x hx => hf x (by simp [hx])), by simp at hl ⊢; omega, by simp, ?_, by omega, by omega⟩
        simp only [pcsS, List.map_cons, List.sum_cons, pcsL_app, pcsL_one]
        unfold Tr.pcs
        omega
      · cases h
    · cases h
def rdL : Nat → List Nat → List (List Tr) → Option (List (List Tr))
  | _, [], st => some st
  | 0, _ :: _, _ => none
  | f + 1, c :: r, st => match stp c r st with
    | some (k, st') => rdL f ((c :: r).drop k) st'
    | none => none
theorem stp_pos {c : Nat} {r : List Nat} {st st' : List (List Tr)} {k : Nat} (h : stp c r st = some (k, st')) : 1 ≤ k := by
  unfold stp at h
  split at h
  · cases h
    exact Nat.le_refl _
  split at h
  · split at h
    · cases h
    · cases h
      exact Nat.le_refl _
  split at h
  · split at h
    · split at h
      · split at h
        · cases h
          omega
        · cases h
      · cases h
    · cases h
  · split at h
    · split at h
      · cases h
        omega
      · cases h
    · cases h
/-- enough is enough -/
theorem rdL_more : ∀ {f : Nat} {r : List Nat} {st : List (List Tr)} {g : Nat}, r.length ≤ f → f ≤ g → rdL g r st = rdL f r st
  | f, [], st, g, _, _ => by
    cases f <;> cases g <;> rfl
  | 0, c :: r, st, g, h, _ => by simp at h
  | f + 1, c :: r, st, g, h, hg => by
    obtain ⟨g', rfl⟩ : ∃ g', g = g' + 1 := ⟨g - 1, by omega⟩
    show (match stp c r st with
      | some (k, st') => rdL g' ((c :: r).drop k) st'
      | none => none) = (match stp c r st with
      | some (k, st') => rdL f ((c :: r).drop k) st'
      | none => none)
    cases e : stp c r st with
    | none => rfl
    | some p =>
      obtain ⟨k, st'⟩ := p
      have h5 := stp_pos e
      exact rdL_more (by rw [List.length_drop, List.length_cons] at *; omega) (by omega)
def rdA (r : List Nat) (st : List (List Tr)) : Option (List (List Tr)) := rdL r.length r st
theorem rdA_nil (st : List (List Tr)) : rdA [] st = some st := rfl
theorem rdA_cons {c : Nat} {r : List Nat} {st : List (List Tr)} : rdA (c :: r) st = match stp c r st with
    | some (k, st') => rdA ((c :: r).drop k) st'
    | none => none := by
  show (match stp c r st with
      | some (k, st') => rdL r.length ((c :: r).drop k) st'
      | none => none) = _
  cases e : stp c r st with
  | none => rfl
  | some p =>
    obtain ⟨k, st'⟩ := p
    have h5 := stp_pos e
    exact rdL_more (Nat.le_refl _) (by rw [List.length_drop, List.length_cons]; omega)
/-- the spread that a text writes -/
def readS (l : List Nat) : Option (List Tr) := if l = [45] then some [] else match rdA l [[]] with
  | some [ts] => if sprB ts = true ∧ rowT (txtL ts) = l then some ts else none
  | _ => none
end
section
def noSep (a : List Nat) : Prop := ∀ c ∈ a, isSep c = false
def atSep (w : List Nat) : Prop := w = [] ∨ ∃ c b, w = c :: b ∧ isSep c = true
theorem itm_app {a w : List Nat} (ha : noSep a) (hw : atSep w) : itm (a ++ w) = a := by
  induction a with
  | nil =>
    rcases hw with rfl | ⟨c, b, rfl, hc⟩
    · rfl
    · show itm (c :: b) = []
      unfold itm
      rw [List.takeWhile_cons, hc]
      rfl
  | cons x a ih =>
    have hx := ha x List.mem_cons_self
    have e : itm (x :: (a ++ w)) = x :: itm (a ++ w) := by
      unfold itm
      rw [List.takeWhile_cons, hx]
      rfl
    rw [List.cons_append, e, ih fun c hc => ha c (List.mem_cons_of_mem _ hc)]
theorem fig_sep {c : Nat} (h : 48 ≤ c ∧ c ≤ 57) : isSep c = false := by
  unfold isSep
  rw [beq_eq_false_iff_ne.mpr (by omega), beq_eq_false_iff_ne.mpr (by omega), beq_eq_false_iff_ne.mpr (by omega)]
  rfl
theorem noSep_app {a b : List Nat} (h1 : noSep a) (h2 : noSep b) : noSep (a ++ b) := fun c hc => (List.mem_append.mp hc).elim (h1 c) (h2 c)
theorem noSep_cons {c : Nat} {b : List Nat} (h1 : isSep c = false) (h2 : noSep b) : noSep (c :: b) := fun x hx => by
  rcases List.mem_cons.mp hx with rfl | hx
  · exact h1
  · exact h2 x hx
theorem num_sep (n : Nat) : noSep (TL.numL n) := fun c hc => fig_sep (TL.numL_digits n c hc)
theorem clk_sep (m : Nat) : noSep (Mo.clk m) := by
  unfold Mo.clk Mo.two
  refine noSep_app (num_sep _) (noSep_cons rfl (noSep_cons (fig_sep (by omega)) (noSep_cons (fig_sep (by omega)) fun c hc => by cases hc)))
theorem shw_sep (m : Nat) : noSep (Mo.shw m) := by
  unfold Mo.shw
  split
  · exact clk_sep m
  · exact noSep_app (num_sep _) (noSep_cons rfl (clk_sep m))
theorem shw_head (m : Nat) : ∃ c r, Mo.shw m = c :: r ∧ 48 ≤ c ∧ c ≤ 57 := by
  have nh : ∀ n, ∃ c r, TL.numL n = c :: r ∧ 48 ≤ c ∧ c ≤ 57 := fun n => by
    cases e : TL.numL n with
    | nil => exact absurd e (TL.numL_ne n)
    | cons c r => exact ⟨c, r, rfl, TL.numL_digits n c (by rw [e]; exact List.mem_cons_self)⟩
  unfold Mo.shw
  split
  · unfold Mo.clk
    obtain ⟨c, r, e, h⟩ := nh (m % 1440 / 60)
    exact ⟨c, r ++ 58 :: Mo.two (m % 60), by rw [e]; rfl, h⟩
  · obtain ⟨c, r, e, h⟩ := nh (m / 1440)
    exact ⟨c, r ++ 32 :: Mo.clk m, by rw [e]; rfl, h⟩
def tailT (m s : Nat) : List Nat := [32, 120] ++ TL.numL m ++ [32, 43] ++ TL.numL s
theorem tail_sep (m s : Nat) : noSep (tailT m s) := by
  unfold tailT
  refine noSep_app (noSep_app (noSep_app (noSep_cons rfl (noSep_cons rfl fun c hc => by cases hc)) (num_sep _)) (noSep_cons rfl (noSep_cons rfl fun c hc => by cases hc))) (num_sep _)
theorem numIn_num (n : Nat) : numIn (TL.numL n) = some n := by
  unfold numIn
  rw [if_pos (Mo.figs_num n), Mo.val_num]
theorem num_free (n : Nat) : 32 ∉ TL.numL n := fun h => by
  have := TL.numL_digits n 32 h
  have h2 : 48 ≤ 32 ∧ 32 ≤ 57 := this
  omega
theorem ovTail_tail (m s : Nat) : ovTail (tailT m s) = some (m, s) := by
  have e : tailT m s = [] ++ 32 :: ((120 :: TL.numL m) ++ 32 :: (43 :: TL.numL s)) := by
    unfold tailT
    simp
  unfold ovTail
  rw [e, Mo.spl_cut _ (by simp), Mo.spl_cut _ (by simp [num_free]), Mo.spl_one (by simp [num_free])]
  show (if ([] : List Nat) = [] ∧ (120 :: TL.numL m).take 1 = [120] ∧ (43 :: TL.numL s).take 1 = [43] then (match numIn ((120 :: TL.numL m).drop 1), numIn ((43 :: TL.numL s).drop 1) with
    | some m, some s => some (m, s)
    | _, _ => none) else none) = _
  rw [if_pos ⟨rfl, rfl, rfl⟩]
  show (match numIn (TL.numL m), numIn (TL.numL s) with
    | some m, some s => some (m, s)
    | _, _ => none) = _
  rw [numIn_num, numIn_num]
theorem ov_txt (ps : List Tr) (m s : Nat) (h : ps ≠ []) : (Tr.ov ps m s).txt = 40 :: (TL.joinL [44, 32] (txtL ps) ++ 41 :: tailT m s) := by
  unfold Tr.txt rowT tailT
  rw [if_neg (by rw [txtL_map]; intro z; exact h (List.map_eq_nil_iff.mp z))]
  simp
theorem stp_at {c : Nat} {r w : List Nat} {n : Nat} {top : List Tr} {st : List (List Tr)} (hc : 48 ≤ c ∧ c ≤ 57) (hr : noSep r) (hw : atSep w) (h : Mo.momOf (c :: r) = some n) : stp c (r ++ w) (top :: st) = some (1 + r.length, (top ++ [.at n]) :: st) := by
  unfold stp
  rw [if_neg (by omega), if_neg (by omega), if_neg (by omega), itm_app hr hw]
  show (match Mo.momOf (c :: r) with
    | some n => some (1 + r.length, (top ++ [Tr.at n]) :: st)
    | none => none) = _
  rw [h]
theorem stp_ov {w : List Nat} {m s : Nat} {top nxt : List Tr} {st : List (List Tr)} (hw : atSep w) (h : ovB top (.int (m : Nat)) (.int (s : Nat)) = true) : stp 41 (tailT m s ++ w) (top :: nxt :: st) = some (1 + (tailT m s).length, (nxt ++ [.ov top m s]) :: st) := by
  unfold stp
  rw [if_neg (by decide), if_neg (by decide), if_pos rfl, itm_app (tail_sep m s) hw]
  show (match ovTail (tailT m s) with
    | some (m', s') => if ovB top (.int (m' : Nat)) (.int (s' : Nat)) = true then some (1 + (tailT m s).length, (nxt ++ [Tr.ov top m' s']) :: st) else none
    | none => none) = _
  rw [ovTail_tail]
  exact if_pos h
theorem drop_app1 (c : Nat) (a w : List Nat) : (c :: (a ++ w)).drop (1 + a.length) = w := by
  rw [Nat.add_comm, List.drop_succ_cons, List.drop_left]
theorem rdA_skip {c : Nat} {r : List Nat} {st : List (List Tr)} (h : c = 44 ∨ c = 32) : rdA (c :: r) st = rdA r st := by
  rw [rdA_cons]
  have e : stp c r st = some (1, st) := by
    unfold stp
    rw [if_pos h]
  rw [e]
  rfl
mutual
theorem rd_t : ∀ {t : Tr} {w : List Nat} {top : List Tr} {st : List (List Tr)}, t.ok → t.nest ≤ 8 → atSep w → st.length + 1 + t.nest ≤ 9 → rdA (t.txt ++ w) (top :: st) = rdA w ((top ++ [t]) :: st)
  | .at n, w, top, st, _, _, hw, _ => by
    unfold Tr.txt
    obtain ⟨c, r, e, hc⟩ := shw_head n
    have hr : noSep r := fun x hx => shw_sep n x (by rw [e]; exact List.mem_cons_of_mem _ hx)
    have hm : Mo.momOf (c :: r) = some n := by rw [← e]; exact Mo.momOf_shw n
    rw [e, List.cons_append, rdA_cons, stp_at hc hr hw hm]
    show rdA ((c :: (r ++ w)).drop (1 + r.length)) _ = _
    rw [drop_app1]
  | .ov ps m s, w, top, st, ho, hn, hw, hd => by
    have hb := ovB_of ho hn
    have hf := ov_facts ho
    have hn2 : (Tr.ov ps m s).nest = 1 + nestL ps := by unfold Tr.nest; rfl
    rw [ov_txt _ _ _ hf.1]
    have e1 : 40 :: (TL.joinL [44, 32] (txtL ps) ++ 41 :: tailT m s) ++ w = 40 :: (TL.joinL [44, 32] (txtL ps) ++ (41 :: (tailT m s ++ w))) := by simp
    rw [e1, rdA_cons]
    have e2 : stp 40 (TL.joinL [44, 32] (txtL ps) ++ (41 :: (tailT m s ++ w))) (top :: st) = some (1, [] :: top :: st) := by
      unfold stp
      rw [if_neg (by decide), if_pos rfl, if_neg (by rw [List.length_cons]; omega)]
    rw [e2]
    show rdA (TL.joinL [44, 32] (txtL ps) ++ (41 :: (tailT m s ++ w))) ([] :: top :: st) = _
    rw [rd_row hf.2.2.2.2.2.2 (by omega) (.inr ⟨41, _, rfl, rfl⟩) (by rw [List.length_cons]; omega), List.nil_append, rdA_cons, stp_ov hw hb]
    show rdA ((41 :: (tailT m s ++ w)).drop (1 + (tailT m s).length)) _ = _
    rw [drop_app1]
theorem rd_row : ∀ {ts : List Tr} {w : List Nat} {top : List Tr} {st : List (List Tr)}, okL_ ts → nestL ts ≤ 8 → atSep w → st.length + 1 + nestL ts ≤ 9 → rdA (TL.joinL [44, 32] (txtL ts) ++ w) (top :: st) = rdA w ((top ++ ts) :: st)
  | [], w, top, st, _, _, _, _ => by
    rw [List.append_nil]
    rfl
  | [t], w, top, st, ho, hn, hw, hd => by
    have e : txtL [t] = [t.txt] := by simp [txtL]
    have n1 : nestL [t] = t.nest := by simp [nestL]
    unfold okL_ at ho
    rw [e]
    exact rd_t ho.1 (by omega) hw (by omega)
  | t :: x :: r, w, top, st, ho, hn, hw, hd => by
    have n1 : nestL (t :: x :: r) = max t.nest (nestL (x :: r)) := by simp [nestL]
    unfold okL_ at ho
    have ih := rd_row (ts := x :: r) (w := w) (top := top ++ [t]) (st := st) ho.2 (by omega) hw (by omega)
    have e : txtL (t :: x :: r) = t.txt :: x.txt :: txtL r := by simp [txtL]
    have e3 : txtL (x :: r) = x.txt :: txtL r := by simp [txtL]
    rw [e]
    show rdA ((t.txt ++ ([44, 32] ++ TL.joinL [44, 32] (x.txt :: txtL r))) ++ w) (top :: st) = _
    rw [← e3]
    have e4 : t.txt ++ ([44, 32] ++ TL.joinL [44, 32] (txtL (x :: r))) ++ w = t.txt ++ (44 :: 32 :: (TL.joinL [44, 32] (txtL (x :: r)) ++ w)) := by simp
    rw [e4, rd_t ho.1 (by omega) (.inr ⟨44, _, rfl, rfl⟩) (by omega), rdA_skip (.inl rfl), rdA_skip (.inr rfl), ih, List.append_assoc]
    rfl
end
theorem txt_ne45 : ∀ {t : Tr}, t.ok → ∀ w, t.txt ++ w ≠ 45 :: w
  | .at n, _, w => by
    unfold Tr.txt
    obtain ⟨c, r, e, hc⟩ := shw_head n
    rw [e]
    intro z
    injection z with z
    omega
  | .ov ps m s, ho, w => by
    rw [ov_txt _ _ _ (ov_facts ho).1]
    intro z
    injection z with z
    omega
theorem read_text {ts : List Tr} (ho : okL_ ts) (hn : nestL ts ≤ 8) (hb : sprB ts = true) : readS (rowT (txtL ts)) = some ts := by
  cases ts with
  | nil =>
    unfold readS
    rw [if_pos (by unfold txtL rowT; rfl)]
  | cons t r =>
    have e : rowT (txtL (t :: r)) = TL.joinL [44, 32] (txtL (t :: r)) := if_neg (by rw [txtL_map]; simp)
    have h45 : rowT (txtL (t :: r)) ≠ [45] := by
      rw [e]
      have ot : t.ok := by unfold okL_ at ho; exact ho.1
      cases r with
      | nil =>
        have e1 : txtL [t] = [t.txt] := by simp [txtL]
        rw [e1]
        show t.txt ≠ [45]
        have := txt_ne45 ot []
        rw [List.append_nil] at this
        exact this
      | cons x q =>
        have e1 : txtL (t :: x :: q) = t.txt :: x.txt :: txtL q := by simp [txtL]
        rw [e1]
        show t.txt ++ ([44, 32] ++ TL.joinL [44, 32] (x.txt :: txtL q)) ≠ [45]
        intro z
        have := congrArg List.length z
        simp at this
        omega
    unfold readS
    rw [if_neg h45]
    have er : rdA (rowT (txtL (t :: r))) [[]] = some [t :: r] := by
      rw [e]
      have := rd_row (w := []) (top := []) (st := []) ho hn (.inl rfl) (by simp; omega)
      rw [List.append_nil, List.nil_append, rdA_nil] at this
      exact this
    rw [er]
    exact if_pos ⟨hb, rfl⟩
def SegOk (n : Nat) (l : List Nat) : Prop := ∀ i, (itm (l.drop i)).length ≤ n
theorem seg_app {n : Nat} {a w : List Nat} (ha : noSep a) (hl : a.length ≤ n) (hw : atSep w) (h : SegOk n w) : SegOk n (a ++ w) := fun i => by
  by_cases c : i ≤ a.length
  · rw [List.drop_append_of_le_length c, itm_app (fun x hx => ha x (List.mem_of_mem_drop hx)) hw, List.length_drop]
    omega
  · rw [List.drop_append, List.drop_eq_nil_of_le (by omega), List.nil_append]
    exact h _
theorem seg_cons {n c : Nat} {w : List Nat} (hc : isSep c = true) (h : SegOk n w) : SegOk n (c :: w) := fun i => by
  cases i with
  | zero =>
    rw [List.drop_zero]
    unfold itm
    rw [List.takeWhile_cons, hc]
    exact Nat.zero_le _
  | succ i => exact h i
theorem seg_nil (n : Nat) : SegOk n [] := fun i => by
  rw [List.drop_nil]
  exact Nat.zero_le _
end
section
def sp_read_spread (K : PySem.W.Frag) : Sp := fun vs H Q E => ∃ x, vs = [x] ∧ ((∃ l : List Nat, x = .str (SX.S l) ∧ l.length ≤ 10000 ∧ (∀ i, (itm (l.drop i)).length ≤ 250) ∧ (∀ ts, readS l = some ts → ∀ a H', Ex H H' → H a = none → SprAt K H' a ts → HeldN K (fun b => H b = none) H' a → Q (.ref a) H') ∧ (readS l = none → ∀ H', Ex H H' → E (.ref (He.ga K "NoPiece")) none H')) ∨
  (∃ t, TyX K H x t ∧ PySem.W.kitOne K t (.type "str") = some false ∧ E (.ref (He.ga K "NoPiece")) none H))
/-- the rows read so far -/
def RdInv (K : PySem.W.Frag) (H : Hp) (l : List Nat) (R : Addr) (i : Nat) (σ : L2.St) (H' : Hp) : Prop := ∃ st rs, σ = [some (.str (SX.S l)), some (.ref R), some (.int ((i : Nat) : Int)), none] ∧ Ex H H' ∧ i ≤ l.length ∧ H' R = some (.lst (rs.reverse.map V.ref)) ∧ RowsAt K H' st rs ∧ (R :: rs).Nodup ∧ (∀ r ∈ rs, H r = none) ∧ fitS st ∧ st.length ≤ 9 ∧ st ≠ [] ∧ pcsS st ≤ i ∧ rdA (l.drop i) st = rdA l [[]]
theorem pcsS_mem {row : List Tr} : ∀ {st : List (List Tr)}, row ∈ st → pcsL row ≤ pcsS st
  | x :: st, h => by
    show _ ≤ pcsL x + pcsS st
    rcases List.mem_cons.mp h with rfl | h
    · omega
    · have := pcsS_mem h
      omega
theorem fb_read_spread {P : Program} {w : World} {K : PySem.W.Frag} {mg : Str → Option Value} {base : Heap} (T : Env K mg) : ∃ fd, FunD K "read_spread" "read_spread" (defArgs s_read_spread) (defBody s_read_spread) (defScope s_read_spread) [] [] (He.ga K "read_spread") fd ∧ Fb P w K mg base 100 (He.ga K "read_spread") fd ["text"] (sp_read_spread K) := by
  obtain ⟨fd, F⟩ := T.f_read_spread
  refine ⟨fd, F, fb_of F sc_read_spread (fun vs H Q E h => ?_) (fun cdv A outer s H vs Q E hr h => ?_)⟩
  · obtain ⟨x, rfl, _⟩ := h
    rfl
  · obtain ⟨x, rfl, h⟩ := h
    refine ⟨_, (pss_cons (ps_if (pt_not (pt_val (pe_callB call_isi (by rfl) T.n_isinstance (by decide +kernel) (pa_cons (pv 0) (pa_cons (pe_bltn (v := .ty "str") (by rfl) T.n_str (by decide +kernel) rfl) pa_nil)))))
      (pss_one (ps_raise rfl (takes_of rfl rfl rfl rfl) (pmk_own PySem.F.excBase_ValueError T.x_NoPiece.x T.g_NoPiece T.x_NoPiece.kp (raises_own T.x_NoPiece.sub T.x_NoPiece.ty) rfl)))
      pss_nil)
      (pss_cons (ps_if (pt_cmpR op_eq (pv 0) (pe_k T.v_NO_PARTS) (nomark _))
      (pss_one (ps_ret (c_make T.mk_Spread (ok_Spread_init T) (hr.mono (by decide)) T.g_Spread (takes_of rfl rfl rfl rfl) (pa_cons (pe_lst pa_nil) pa_nil))))
      pss_nil)
      (pss_cons (ps_set (i := 1) sc_read_spread.nd rfl (Or.inl rfl) (pe_lst (pa_cons (pe_lst pa_nil) pa_nil)))
      (pss_cons (ps_set (i := 2) sc_read_spread.nd rfl (Or.inl rfl) pe_int)
      (pss_cons (ps_while (passes_of rfl) (pt_cmpR op_lt (pv 2) (pe_callB call_len (by rfl) T.n_len (by decide +kernel) (pa_cons (pv 0) pa_nil)) (nomark _))
      (pss_one (ps_set (i := 2) sc_read_spread.nd rfl (Or.inl rfl) (c_call (ok_read_on T) (hr.mono (by decide)) T.g_read_on T.k_read_on (takes_of rfl rfl rfl rfl) (pa_cons (pv 0) (pa_cons (pv 2) (pa_cons (pv 1) pa_nil)))))))
      (pss_cons (ps_if (pt_cmpR op_gt (pe_callB call_len (by rfl) T.n_len (by decide +kernel) (pa_cons (pv 1) pa_nil)) pe_int (nomark _))
      (pss_one (ps_raise rfl (takes_of rfl rfl rfl rfl) (pmk_own PySem.F.excBase_ValueError T.x_NoPiece.x T.g_NoPiece T.x_NoPiece.kp (raises_own T.x_NoPiece.sub T.x_NoPiece.ty) rfl)))
      pss_nil)
      (pss_cons (ps_set (i := 3) sc_read_spread.nd rfl (Or.inl rfl) (c_make T.mk_Spread (ok_Spread_init T) (hr.mono (by decide)) T.g_Spread (takes_of rfl rfl rfl rfl) (pa_cons (pe_ix ix_list (pv 1) pe_int (fun _ _ => rfl)) pa_nil)))
      (pss_cons (ps_if (pt_cmpR op_ne (pe_callTy (call_strO T.m_Spread_str (ok_Spread_str T) (hr.mono (by decide))) (by rfl) T.n_str (by decide +kernel) (pa_cons (pv 3) pa_nil)) (pv 0) (nomark _))
      (pss_one (ps_raise rfl (takes_of rfl rfl rfl rfl) (pmk_own PySem.F.excBase_ValueError T.x_NoPiece.x T.g_NoPiece T.x_NoPiece.kp (raises_own T.x_NoPiece.sub T.x_NoPiece.ty) rfl)))
      pss_nil)
      (pss_one (ps_ret (pv 3))))))))))), ?_⟩
    rcases h with ⟨l, rfl, hl, hi, q, qe⟩ | ⟨t, ty, kt, qe⟩
    · have ls : (SX.S l).length ≤ sizeLine := sz_big (by rw [SX.S_len]; omega)
      refine ⟨_, rfl, _, _, _, _, _, rfl, .ty _, .base (.str _), (kit_ty (r := true) (by decide +kernel)), _, rfl, ?_⟩
      refine iteF ?_
      refine ⟨_, rfl, rfl, _, rfl, ?_⟩
      try dsimp only [tNil]
      by_cases c0 : l = [45]
      · refine ifP (by rw [c0]; rfl) ?_
        refine ⟨(by decide), ?_⟩
        intro p np x dx nx nd ne
        have X1 := ex_new (o := .lst []) np
        refine spread_newH (as := []) (ts := []) nx nd ne (.inl upd_same) (by unfold ShsAt; rfl) (by simp [nestL]) (by unfold okL_; trivial) rfl fun H2 X2 hS hHe => ⟨rfl, ?_⟩
        exact q [] (by unfold readS; rw [if_pos c0]) x H2 (X1.trans X2) (ex_fresh X1 nx) hS fun dx kp hd z => ex_fresh X1 (hHe dx kp hd z)
      refine ifN (vstr_ne (b := [45]) c0) ?_
      have eR : readS l = match rdA l [[]] with
        | some [ts] => if sprB ts = true ∧ rowT (txtL ts) = l then some ts else none
        | _ => none := by
        unfold readS
        rw [if_neg c0]
      rw [eR] at q qe
      refine ⟨(by decide), fun r0 nr0 => ⟨by show 1 ≤ sizeLine; decide, fun R nR => ?_⟩⟩
      have X1 := ex_new (o := .lst []) nr0
      have X2 := X1.trans (ex_new (o := .lst [.ref r0]) nR)
      have hr0 : upd (upd H r0 (.lst [])) R (.lst [.ref r0]) r0 = some (.lst []) := ex_new (o := .lst [.ref r0]) nR _ _ upd_same
      have hR0 : upd (upd H r0 (.lst [])) R (.lst [.ref r0]) R = some (.lst [.ref r0]) := upd_same
      have nRr : R ≠ r0 := fun z => by
        rw [z] at nR
        rw [show upd H r0 (.lst []) r0 = some (.lst []) from upd_same] at nR
        cases nR
      have nR1 : H R = none := ex_fresh X1 nR
      generalize upd (upd H r0 (.lst [])) R (.lst [.ref r0]) = H1 at X2 hr0 hR0 ⊢
      refine ⟨fun m σ H' => ∃ i, m = l.length - i ∧ RdInv K H l R i σ H', ⟨_, 0, rfl, [[]], [r0], rfl, X2, Nat.zero_le _, hR0, ⟨r0, [], rfl, ⟨[], hr0, by unfold ShsAt; rfl⟩, rfl⟩, by simp [nRr], fun r hr => by rw [List.mem_singleton.mp hr]; exact nr0, fun row hrow => by rw [List.mem_singleton.mp hrow]; exact ⟨by unfold okL_; trivial, by simp [nestL], by unfold fitL; trivial⟩, by decide, by simp, by simp [pcsS, pcsL], by rw [List.drop_zero]⟩, ?_⟩
      rintro m σ H2 ⟨i, rfl, st, rs, rfl, X3, hil, hR, hrs, nd, nrs, hf, hst, ne, hp, erd⟩
      refine ⟨_, rfl, _, rfl, _, _, rfl, ⟨ls, rfl⟩, _, _, rfl, rfl, _, rfl, ?_⟩
      try dsimp only [tNil]
      rw [SX.S_len]
      by_cases c1 : i < l.length
      · refine ifP (by omega) ?_
        have hg : l[i]? = some l[i] := List.getElem?_eq_getElem c1
        have ed : l.drop i = l[i] :: l.drop (i + 1) := List.drop_eq_getElem_cons c1
        rw [ed, rdA_cons] at erd
        have exC : ∀ H3, Rch R rs H2 H3 → Ex H H3 := fun H3 C b o e => C b o (fun z => by rw [z, nR1] at e; cases e) (fun z => by rw [nrs b z] at e; cases e) (X3 _ _ e)
        refine ⟨fun σ' H' => ∃ i', i < i' ∧ RdInv K H l R i' σ' H', ?_, _, rfl, _, rfl, _, rfl, l, i, l[i], R, rs, st, rfl, hg, hl, Nat.le_trans (hi _) (by decide), hR, hrs, nd, ne, by omega, fun row hrow => ⟨(hf row hrow).1, (hf row hrow).2.1, ?_⟩, fun k st' hstp rs' H3 C3 hR3 hrs3 nd3 nn3 => ?_, fun hno H3 C3 => ?_⟩
        · rintro σ' H' ⟨i', hi', r⟩
          have hle : i' ≤ l.length := by
            obtain ⟨_, _, _, _, h, _⟩ := r
            exact h
          exact ⟨l.length - i', by omega, i', rfl, r⟩
        · have h1 := pcsS_mem hrow
          have h2 := len_pcsL row
          omega
        · obtain ⟨g1, g2, g3, g4, g5, g6⟩ := stp_good hstp hf hst (hi _) ne
          rw [List.length_drop] at g6
          rw [hstp] at erd
          refine ⟨i + k, by omega, st', rs', rfl, exC H3 C3, by omega, hR3, hrs3, nd3, fun r hr => ?_, g1, g2, g3, by omega, ?_⟩
          · rcases nn3 r hr with z | z
            · exact nrs r z
            · exact ex_fresh X3 z
          · rw [← erd, ← ed]
            show _ = rdA ((l.drop i).drop k) st'
            rw [List.drop_drop]
        · rw [hno] at erd
          rw [← erd] at qe
          exact qe rfl H3 (exC H3 C3)
      · refine ifN (by omega) ?_
        have ei : l.drop i = [] := List.drop_eq_nil_of_le (by omega)
        rw [ei, rdA_nil] at erd
        rw [← erd] at q qe
        refine ⟨_, rfl, _, _, rfl, (.inl ⟨_, ⟨(sq_lst hR), rfl⟩⟩), _, _, rfl, rfl, _, rfl, ?_⟩
        dsimp only [tNil]
        have hlen := hrs.len
        obtain ⟨top, stq, rfl⟩ := List.exists_cons_of_ne_nil ne
        cases stq with
        | cons nxt rest =>
          refine ifP (by simp; simp at hlen; omega) ?_
          exact qe rfl H2 X3
        | nil =>
        obtain ⟨r1, rq, rfl, ⟨as, hr1, hS⟩, hrq⟩ := id hrs
        have eq0 : rq = [] := hrq
        subst eq0
        refine ifN (by simp) ?_
        have hft := hf top List.mem_cons_self
        have hpt := pcsS_mem (row := top) (st := [top]) List.mem_cons_self
        have hlt := len_pcsL top
        have a0 : atI ([r1].reverse.map V.ref) 0 = some (.ref r1) := atI_nat (j := 0) rfl
        have okq : ∀ ts, (match some [top] with
          | some [ts] => if sprB ts = true ∧ rowT (txtL ts) = l then some ts else none
          | _ => none) = some ts → ts = top ∧ sprB top = true ∧ rowT (txtL top) = l := fun ts h => by
          have h : (if sprB top = true ∧ rowT (txtL top) = l then some top else none) = some ts := h
          split at h
          · rename_i hc
            cases h
            exact ⟨rfl, hc⟩
          · cases h
        refine ⟨_, rfl, _, _, _, _, rfl, rfl, (sq_lst hR), rfl, ?_⟩
        try dsimp only [tNil]
        intro x dx nx nd2 ne2
        refine ⟨x, dx, r1, as, top, H2, rfl, upd_same, nx, ex_made nx nd2 ne2, .inl hr1, hS, hft.2.1, hft.1, by omega, by omega, fun hb H3 O3 hSp hHe => ⟨rfl, ?_⟩, fun hb H3 O3 => ?_⟩
        · have X4 : Ex H2 H3 := fun b o e => O3 b o (ne_of_none e nx) (ex_made nx nd2 ne2 _ _ e)
          obtain ⟨dx2, kp, hd, as2, hx, _⟩ := id hSp
          refine ⟨_, rfl, x, dx2, _, rfl, hx, x, top, rfl, hSp, by omega, hft.2.2, by omega, fun H4 X5 => ⟨trivial, _, rfl, rfl, _, rfl, ?_⟩⟩
          have X05 := X3.trans (X4.trans X5)
          by_cases ce : rowT (txtL top) = l
          · refine ifnP (by rw [ce]) ?_
            exact ⟨_, rfl, q top (if_pos ⟨hb, ce⟩) x H4 X05 (ex_fresh X3 nx) (hSp.mono X5) (HeldN.ex (N := fun b => H b = none) (fun dx kp hd z => ex_fresh X3 (hHe dx kp hd z)) hSp fun o e => X5 _ _ e)⟩
          · refine ifnN (vstr_ne ce) ?_
            exact qe (if_neg fun z => ce z.2) H4 X05
        · have X4 : Ex H2 H3 := fun b o e => O3 b o (ne_of_none e nx) (ex_made nx nd2 ne2 _ _ e)
          exact qe (if_neg fun z => by rw [hb] at z; cases z.1) H3 (X3.trans X4)
    · exact ⟨_, rfl, x, .ty "str", _, _, false, rfl, .ty "str", ty, kt, false, rfl, iteT qe⟩
theorem ok_read_spread {P : Program} {w : World} {K : PySem.W.Frag} {mg : Str → Option Value} {base : Heap} (T : Env K mg) : Fc P w K mg base 100 (He.ga K "read_spread") [] (sp_read_spread K ) := by
  obtain ⟨fd, D, F⟩ := fb_read_spread T
  exact F.all (D.bindsN fun _ _ _ _ _ _ us hl => match us, hl with | [_], _ => rfl)
end
section
/-- a pot: what is left of a cell's digits, and what mixes -/
def Pot (H : Hp) (p : Addr) : Prop := ∃ a b : Int, H p = some (.lst [.int a, .int b]) ∧ 0 ≤ b ∧ b < 4294967296
def sp__law_pot (K : PySem.W.Frag) : Sp := fun vs H Q _ => ∃ (a : Addr) (ns : List Int) (k : Int), vs = [.ref a, .int k] ∧ SqL K H a (ns.map V.int) ∧ 0 ≤ k ∧ k < 1000 ∧ ∀ p H', H p = none → Pot H' p → (∀ b, b ≠ p → H' b = H b) → Q (.ref p) H'
theorem fb__law_pot {P : Program} {w : World} {K : PySem.W.Frag} {mg : Str → Option Value} {base : Heap} (T : Env K mg) : ∃ fd, FunD K "_law_pot" "_law_pot" (defArgs s__law_pot) (defBody s__law_pot) (defScope s__law_pot) [] [] (He.ga K "_law_pot") fd ∧ Fb P w K mg base 1 (He.ga K "_law_pot") fd ["_law_script", "_law_k"] (sp__law_pot K) := by
  obtain ⟨fd, F⟩ := T.f__law_pot
  refine ⟨fd, F, fb_of F sc__law_pot (fun vs H Q E h => ?_) (fun cdv A outer s H vs Q E hr h => ?_)⟩
  · obtain ⟨a, ns, k, rfl, _⟩ := h
    rfl
  · obtain ⟨a, ns, k, rfl, hS, k0, k1, q⟩ := h
    refine ⟨_, (pss_cons (ps_set (i := 2) sc__law_pot.nd rfl (Or.inl rfl) pe_int)
      (Evl.pss_cut (ps_if (pt_cmpR op_lt (pv 1) (pe_callB call_len (by rfl) T.n_len (by decide +kernel) (pa_cons (pv 0) pa_nil)) (nomark _))
      (pss_one (ps_set (i := 2) sc__law_pot.nd rfl (Or.inl rfl) (pe_ix ix_list (pv 0) (pv 1) (fun _ _ => rfl))))
      pss_nil)
      (pss_one (ps_ret (pe_lst (pa_cons (pe_callB (call_max2 rfl) (by rfl) T.n_max (by decide +kernel) (pa_cons pe_int (pa_cons (pe_op op_sub (pv 2) (pe_op op_pow pe_int pe_int)) pa_nil))) (pa_cons (pe_op op_add (pe_op op_add (pe_op op_mod (pv 2) pe_int) (pe_op op_mul pe_int (pv 1))) pe_int) pa_nil))))))), ?_⟩
    refine ⟨fun σ' H' => H' = H ∧ ∃ cell : Int, σ' = [some (.ref a), some (.int k), some (.int cell)], ?_, ?_⟩
    · refine ⟨_, rfl, _, rfl, _, _, rfl, .inl ⟨_, hS, rfl⟩, _, _, rfl, rfl, _, rfl, ite2 (fun c => ?_) (fun c => ?_)⟩
      · have c2 : k < ((ns.map V.int).length : Int) := of_decide_eq_true c
        rw [List.length_map] at c2
        obtain ⟨i, rfl⟩ := Int.eq_ofNat_of_zero_le k0
        have hi : i < ns.length := Int.ofNat_lt.mp c2
        refine ⟨_, rfl, _, rfl, a, _, _, .int ns[i], rfl, rfl, hS, ?_, rfl, ns[i], rfl⟩
        exact atI_nat (by rw [List.getElem?_map, List.getElem?_eq_getElem hi]; rfl)
      · exact ⟨rfl, 0, rfl⟩
    · rintro σ' H' ⟨rfl, cell, rfl⟩
      have m1 := Int.emod_nonneg cell (show (2147483629 : Int) ≠ 0 by decide)
      have m2 := Int.emod_lt_of_pos cell (show (0 : Int) < 2147483629 by decide)
      refine ⟨_, rfl, _, _, rfl, rfl, ⟨by decide, by decide, by decide⟩, _, _, rfl, rfl, _, _, rfl, ?_⟩
      refine ⟨_, rfl, _, _, rfl, rfl, (by show (0 : Int) < 2147483629; decide), _, rfl, _, _, rfl, rfl, .inl (by decide), _, _, rfl, rfl, _, _, rfl, rfl, by show 2 ≤ sizeLine; decide, fun p hp => ?_⟩
      exact q p _ hp ⟨_, _, upd_same, by omega, by omega⟩ fun b n => upd_ne n
theorem ok__law_pot {P : Program} {w : World} {K : PySem.W.Frag} {mg : Str → Option Value} {base : Heap} (T : Env K mg) : Fc P w K mg base 1 (He.ga K "_law_pot") [] (sp__law_pot K ) := by
  obtain ⟨fd, D, F⟩ := fb__law_pot T
  exact F.all (D.bindsN fun _ _ _ _ _ _ us hl => match us, hl with | [_, _], _ => rfl)
end
section
/-- the pot at p is drawn from: everything else stays -/
def PotOn (H H' : Hp) (p : Addr) : Prop := Pot H' p ∧ ∀ b o, b ≠ p → H b = some o → H' b = some o
theorem PotOn.refl {H : Hp} {p : Addr} (h : Pot H p) : PotOn H H p := ⟨h, fun _ _ _ e => e⟩
theorem PotOn.trans {H H1 H2 : Hp} {p : Addr} (a : PotOn H H1 p) (b : PotOn H1 H2 p) : PotOn H H2 p := ⟨b.1, fun c o n e => b.2 c o n (a.2 c o n e)⟩
theorem pot_new {H H' : Hp} {p l : Addr} {o : HO} (P : PotOn H H' p) (n : H' l = none) : PotOn H (upd H' l o) p := by
  obtain ⟨⟨x, y, e, r⟩, k⟩ := P
  refine ⟨⟨x, y, by rw [upd_ne (ne_of_none e n)]; exact e, r⟩, fun b u nb h => ?_⟩
  rw [upd_ne (ne_of_none (k b u nb h) n)]
  exact k b u nb h
def sp__law_draw (K : PySem.W.Frag) : Sp := fun vs H Q _ => ∃ (p : Addr) (n : Int), vs = [.ref p, .int n] ∧ Pot H p ∧ 0 < n ∧ n.toNat < 10 ^ 200 ∧ ∀ (d : Int) H', 0 ≤ d → d < n → PotOn H H' p → Q (.int d) H'
theorem fb__law_draw {P : Program} {w : World} {K : PySem.W.Frag} {mg : Str → Option Value} {base : Heap} (T : Env K mg) : ∃ fd, FunD K "_law_draw" "_law_draw" (defArgs s__law_draw) (defBody s__law_draw) (defScope s__law_draw) [] [] (He.ga K "_law_draw") fd ∧ Fb P w K mg base 1 (He.ga K "_law_draw") fd ["_law_pot_here", "_law_many_here"] (sp__law_draw K) := by
  obtain ⟨fd, F⟩ := T.f__law_draw
  refine ⟨fd, F, fb_of F sc__law_draw (fun vs H Q E h => ?_) (fun cdv A outer s H vs Q E hr h => ?_)⟩
  · obtain ⟨p, n, rfl, _⟩ := h
    rfl
  · obtain ⟨p, n, rfl, ⟨a, b, hp, b0, b1⟩, n0, n1, q⟩ := h
    refine ⟨_, (pss_cons (ps_if (pt_cmpR op_gt (pe_ix ix_list (pv 0) pe_int (fun _ _ => rfl)) pe_int (nomark _))
      (pss_cons (ps_asg (pe_callB call_divmodW (by rfl) T.n_divmod (by decide +kernel) (pa_cons (pe_ix ix_list (pv 0) pe_int (fun _ _ => rfl)) (pa_cons (pv 1) pa_nil))) (pg_tup (by rfl) (pgs_cons (pg_sub (pv 0) pe_int set_list) (pgs_cons (pg_name (i := 2) sc__law_draw.nd rfl (Or.inl rfl)) pgs_nil))))
      (pss_one (ps_ret (pv 2))))
      pss_nil)
      (pss_cons (ps_asg (pe_op op_mod (pe_op op_add (pe_op op_mul (pe_ix ix_list (pv 0) pe_int (fun _ _ => rfl)) pe_int) pe_int) pe_int) (pg_sub (pv 0) pe_int set_list))
      (pss_one (ps_ret (pe_op op_mod (pe_op op_fdiv (pe_op op_mod (pe_op op_mul (pe_ix ix_list (pv 0) pe_int (fun _ _ => rfl)) (pe_ix ix_list (pv 0) pe_int (fun _ _ => rfl))) pe_int) pe_int) (pv 1)))))), ?_⟩
    refine ⟨_, rfl, p, _, _, .int a, rfl, rfl, sq_lst hp, rfl, _, _, rfl, rfl, _, rfl, ite2 (fun _ => ?_) (fun _ => ?_)⟩
    · refine ⟨_, rfl, p, _, _, .int a, rfl, rfl, sq_lst hp, rfl, _, rfl, a, n, rfl, ⟨n0, PyProof.noPylong_of_log2 (Nat.lt_trans (log_of (show n.natAbs < 10 ^ 200 by omega)) (by decide))⟩, fun t ht => ?_⟩
      have pt : p ≠ t := ne_of_none hp ht
      refine ⟨t, _, rfl, sq_tup upd_same, rfl, _, _, rfl, _, rfl, p, [.int a, .int b], 0, 0, rfl, rfl, (by rw [upd_ne pt]; exact hp), rfl, _, _, rfl, rfl, _, rfl, ?_⟩
      refine q _ _ (Int.emod_nonneg _ (by omega)) (Int.emod_lt_of_pos _ n0) ⟨⟨_, _, upd_same, b0, b1⟩, fun x o nx e => ?_⟩
      rw [upd_ne nx, upd_ne (ne_of_none e ht)]
      exact e
    · refine ⟨_, rfl, p, _, _, .int b, rfl, rfl, sq_lst hp, rfl, _, _, rfl, rfl, .inr (by decide), _, _, rfl, rfl, _, _, rfl, rfl, (by show (0 : Int) < 2147483629; decide), _, rfl, p, _, 1, 1, rfl, rfl, hp, rfl, ?_⟩
      have m1 := Int.emod_nonneg (b * 48271 + 8191) (show (2147483629 : Int) ≠ 0 by decide)
      have m2 := Int.emod_lt_of_pos (b * 48271 + 8191) (show (0 : Int) < 2147483629 by decide)
      refine ⟨_, rfl, p, _, _, .int ((b * 48271 + 8191) % 2147483629), rfl, rfl, sq_lst upd_same, rfl, _, rfl, p, _, _, .int ((b * 48271 + 8191) % 2147483629), rfl, rfl, sq_lst upd_same, rfl, _, _, rfl, rfl, .inl ⟨by omega, by omega⟩, _, _, rfl, rfl, (by show (0 : Int) < 2147483587; decide), _, _, rfl, rfl, ⟨by decide, by decide⟩, _, rfl, _, _, rfl, rfl, n0, ?_⟩
      refine q _ _ (Int.emod_nonneg _ (by omega)) (Int.emod_lt_of_pos _ n0) ⟨⟨_, _, upd_same, m1, by omega⟩, fun x o nx e => ?_⟩
      rw [upd_ne nx]
      exact e
theorem PotOn.ex {H0 H H' : Hp} {p : Addr} (e : Ex H0 H) (n : H0 p = none) (P : PotOn H H' p) : Ex H0 H' := fun b o h => P.2 b o (ne_of_none h n) (e b o h)
theorem pot_upd {H H' : Hp} {p l : Addr} {o : HO} (P : PotOn H H' p) (n : H l = none) (ne : l ≠ p) : PotOn H (upd H' l o) p := by
  obtain ⟨⟨x, y, e, r⟩, k⟩ := P
  refine ⟨⟨x, y, by rw [upd_ne (Ne.symm ne)]; exact e, r⟩, fun b u nb h => ?_⟩
  rw [upd_ne (ne_of_none h n)]
  exact k b u nb h
theorem PotOn.ex2 {H H1 H2 : Hp} {p : Addr} (P : PotOn H H1 p) (e : Ex H1 H2) : PotOn H H2 p := by
  obtain ⟨⟨x, y, h, r⟩, k⟩ := P
  exact ⟨⟨x, y, e _ _ h, r⟩, fun b u nb h => e _ _ (k b u nb h)⟩
theorem pot_ne {H H' : Hp} {p l : Addr} (P : PotOn H H' p) (n : H' l = none) : l ≠ p := fun z => by
  obtain ⟨_, _, e, _⟩ := P.1
  rw [z, e] at n
  cases n
theorem at_mem {xs : List V} {i : Int} (h0 : 0 ≤ i) (h1 : i < (xs.length : Nat)) : ∃ x, x ∈ xs ∧ atI xs i = some x := by
  obtain ⟨n, rfl⟩ := Int.eq_ofNat_of_zero_le h0
  have hn : n < xs.length := Int.ofNat_lt.mp h1
  exact ⟨xs[n], List.getElem_mem hn, atI_nat (List.getElem?_eq_getElem hn)⟩
theorem PotOn.fresh {H H' : Hp} {p b : Addr} (P : PotOn H H' p) (n : H' b = none) : H b = none := by
  cases e : H b with
  | none => rfl
  | some o =>
    by_cases hb : b = p
    · obtain ⟨_, _, e2, _⟩ := P.1
      rw [hb, e2] at n
      cases n
    · rw [P.2 b o hb e] at n
      cases n
theorem pot_other {H : Hp} {p b : Addr} {o : HO} (hp : Pot H p) (h : H b = some o) (ho : ∀ x y : Int, o ≠ .lst [.int x, .int y]) : b ≠ p := fun w => by
  obtain ⟨x, y, e, _⟩ := hp
  rw [w, e] at h
  exact ho x y (Option.some.inj h).symm
theorem ok__law_draw {P : Program} {w : World} {K : PySem.W.Frag} {mg : Str → Option Value} {base : Heap} (T : Env K mg) : Fc P w K mg base 1 (He.ga K "_law_draw") [] (sp__law_draw K ) := by
  obtain ⟨fd, D, F⟩ := fb__law_draw T
  exact F.all (D.bindsN fun _ _ _ _ _ _ us hl => match us, hl with | [_, _], _ => rfl)
end
section
mutual
/-- at a what a law has drawn for a short -/
def DtAt (H : Hp) : Tr → Addr → Prop
  | .at n, a => H a = some (.tup [.str "at", .int (n : Nat)])
  | .ov ps m s, a => ∃ r as, H a = some (.tup [.str "over", .ref r, .int (m : Nat), .int (s : Nat)]) ∧ H r = some (.tup (as.map V.ref)) ∧ DtsAt H ps as
def DtsAt (H : Hp) : List Tr → List Addr → Prop
  | [], as => as = []
  | t :: ts, as => ∃ a r, as = a :: r ∧ DtAt H t a ∧ DtsAt H ts r
end
mutual
theorem DtAt.keep {H H' : Hp} (e : ∀ b xs, H b = some (.tup xs) → H' b = some (.tup xs)) : ∀ {t : Tr} {a : Addr}, DtAt H t a → DtAt H' t a
  | .at n, a, h => by
    unfold DtAt at h ⊢
    exact e _ _ h
  | .ov ps m s, a, h => by
    unfold DtAt at h ⊢
    obtain ⟨r, as, h1, h2, h3⟩ := h
    exact ⟨r, as, e _ _ h1, e _ _ h2, DtsAt.keep e h3⟩
theorem DtsAt.keep {H H' : Hp} (e : ∀ b xs, H b = some (.tup xs) → H' b = some (.tup xs)) : ∀ {ts : List Tr} {as : List Addr}, DtsAt H ts as → DtsAt H' ts as
  | [], as, h => by
    unfold DtsAt at h ⊢
    exact h
  | t :: ts, as, h => by
    unfold DtsAt at h ⊢
    obtain ⟨a, r, h1, h2, h3⟩ := h
    exact ⟨a, r, h1, DtAt.keep e h2, DtsAt.keep e h3⟩
end
theorem DtAt.mono {H H' : Hp} {t : Tr} {a : Addr} (h : DtAt H t a) (e : Ex H H') : DtAt H' t a := h.keep fun b xs z => e _ _ z
theorem DtsAt.mono {H H' : Hp} {ts : List Tr} {as : List Addr} (h : DtsAt H ts as) (e : Ex H H') : DtsAt H' ts as := h.keep fun b xs z => e _ _ z
theorem DtsAt.len {H : Hp} : ∀ {ts : List Tr} {as : List Addr}, DtsAt H ts as → as.length = ts.length
  | [], as, h => by
    unfold DtsAt at h
    rw [h]
    rfl
  | t :: ts, as, h => by
    unfold DtsAt at h
    obtain ⟨a, r, rfl, _, h3⟩ := h
    rw [List.length_cons, List.length_cons, DtsAt.len h3]
theorem DtsAt.get {H : Hp} : ∀ {ts : List Tr} {as : List Addr} {i : Nat} {a : Addr}, DtsAt H ts as → as[i]? = some a → ∃ t, ts[i]? = some t ∧ DtAt H t a
  | [], as, i, a, h, hi => by
    unfold DtsAt at h
    rw [h] at hi
    cases hi
  | t :: ts, as, i, a, h, hi => by
    unfold DtsAt at h
    obtain ⟨b, r, rfl, h2, h3⟩ := h
    cases i with
    | zero =>
      cases hi
      exact ⟨t, rfl, h2⟩
    | succ i => exact DtsAt.get (i := i) h3 hi
theorem DtsAt.snoc {H : Hp} {t : Tr} {a : Addr} : ∀ {ts : List Tr} {as : List Addr}, DtsAt H ts as → DtAt H t a → DtsAt H (ts ++ [t]) (as ++ [a])
  | [], as, h, ha => by
    unfold DtsAt at h
    rw [h]
    show DtsAt H [t] [a]
    unfold DtsAt
    exact ⟨a, [], rfl, ha, by unfold DtsAt; rfl⟩
  | x :: ts, as, h, ha => by
    unfold DtsAt at h
    obtain ⟨b, r, rfl, h2, h3⟩ := h
    show DtsAt H (x :: (ts ++ [t])) (b :: (r ++ [a]))
    unfold DtsAt
    exact ⟨b, r ++ [a], rfl, h2, DtsAt.snoc h3 ha⟩
def sp__law_moments (K : PySem.W.Frag) (d : Nat) : Sp := fun vs H Q _ => ∃ (a : Addr) (t : Tr), vs = [.ref a] ∧ DtAt H t a ∧ t.nest + 1 ≤ d ∧ t.ok ∧ t.moms.length ≤ 1440 ∧ ∀ p H', Ex H H' → H p = none → H' p = some (.lst (natV t.moms)) → Q (.ref p) H'
end
section
def sp__law_row_moments (K : PySem.W.Frag) (d : Nat) : Sp := fun vs H Q _ => ∃ (p : Addr) (as : List Addr) (ts : List Tr), vs = [.ref p] ∧ H p = some (.tup (as.map V.ref)) ∧ DtsAt H ts as ∧ (∀ t ∈ ts, t.nest + 1 ≤ d) ∧ okL_ ts ∧ (momsL ts).length ≤ 1440 ∧ ∀ t H', Ex H H' → H t = none → H' t = some (.lst (natV (momsL ts))) → Q (.ref t) H'
theorem fb__law_row_moments {P : Program} {w : World} {K : PySem.W.Frag} {mg : Str → Option Value} {base : Heap} (T : Env K mg) {d L : Nat} (hL : 40 ≤ L) (r__law_moments : Fc P w K mg base L (He.ga K "_law_moments") [] (sp__law_moments K d)) : ∃ fd, FunD K "_law_row_moments" "_law_row_moments" (defArgs s__law_row_moments) (defBody s__law_row_moments) (defScope s__law_row_moments) [] [] (He.ga K "_law_row_moments") fd ∧ Fb P w K mg base (L + 1) (He.ga K "_law_row_moments") fd ["_law_row_here"] (sp__law_row_moments K (d)) := by
  obtain ⟨fd, F⟩ := T.f__law_row_moments
  refine ⟨fd, F, fb_of F sc__law_row_moments (fun vs H Q E h => ?_) (fun cdv A outer s H vs Q E hr h => ?_)⟩
  · obtain ⟨p, as, ts, rfl, _⟩ := h
    rfl
  · obtain ⟨p, as, ts, rfl, hp, hA, hn, hok, hl, q⟩ := h
    refine ⟨_, (pss_cons (ps_set (i := 1) sc__law_row_moments.nd rfl (Or.inl rfl) (pe_lst pa_nil))
      (pss_cons (ps_for (passes_of rfl) rfl (pi_tup (pv 0)) (pg_name (i := 2) sc__law_row_moments.nd rfl (Or.inl rfl))
      (pss_one (ps_expr (pe_bm PySem.F.plainAttrs_list PySem.F.slot_list_extend PySem.F.type_list_extend mt_extend (pv 1) (pa_cons (c_call r__law_moments (hr.mono (by omega)) T.g__law_moments T.k__law_moments takes0 (pa_cons (pv 2) pa_nil)) pa_nil)))))
      (pss_one (ps_ret (pv 1))))), ?_⟩
    refine ⟨by show 0 ≤ sizeLine; decide, fun f nf => ?_⟩
    have X0 := ex_new (o := .lst []) nf
    have hl1 := hA.len
    have pf : p ≠ f := ne_of_none hp nf
    refine ⟨_, rfl, p, rfl, ⟨_, sq_tup (X0 _ _ hp)⟩, for_on as V.ref L2.walk_tup (fun i σ H' => Oth f H H' ∧ ∃ v2, σ = [some (.ref p), some (.ref f), v2] ∧ H' f = some (.lst (natV (momsL (ts.take i))))) ⟨ex_oth X0, _, rfl, upd_same⟩ (fun i σ H' z => sq_tup (z.1 _ _ pf hp)) ?_ ?_⟩
    · rintro i a σ H2 hx ⟨O2, v2, rfl, hf⟩
      obtain ⟨t, ht, hS⟩ := hA.get hx
      have htm := List.mem_of_getElem? ht
      have X2 : Ex H H2 := fun b o e => O2 b o (ne_of_none e nf) e
      have eT := momsL_take ht
      have bT := momsL_take_len ts (i + 1)
      rw [eT, List.length_append] at bT
      refine ⟨_, rfl, .inl ⟨rfl, _, sq_lst hf⟩, _, rfl, a, t, rfl, hS.mono X2, hn t htm, okL_mem hok htm, by omega, fun u H3 X3 nu hu => ?_⟩
      refine ⟨f, u, _, _, rfl, rfl, X3 _ _ hf, hu, sz_le (by rw [natV_len, natV_len]; omega), (O2.trans (ex_oth X3)).upd, _, rfl, ?_⟩
      rw [upd_same, eT]
      unfold natV
      rw [List.map_append]
    · rintro σ H2 ⟨O2, v2, rfl, hf⟩
      rw [List.take_of_length_le (by omega)] at hf
      exact ⟨_, rfl, q f H2 (fun b o e => O2 b o (ne_of_none e nf) e) nf hf⟩
theorem ok__law_row_moments {P : Program} {w : World} {K : PySem.W.Frag} {mg : Str → Option Value} {base : Heap} (T : Env K mg) {d L : Nat} (hL : 40 ≤ L) (r__law_moments : Fc P w K mg base L (He.ga K "_law_moments") [] (sp__law_moments K d)) : Fc P w K mg base (L + 1) (He.ga K "_law_row_moments") [] (sp__law_row_moments K (d)) := by
  obtain ⟨fd, D, F⟩ := fb__law_row_moments T hL r__law_moments
  exact F.all (D.bindsN fun _ _ _ _ _ _ us hl => match us, hl with | [_], _ => rfl)
end
section
theorem fb__law_moments {P : Program} {w : World} {K : PySem.W.Frag} {mg : Str → Option Value} {base : Heap} (T : Env K mg) {d L : Nat} (hL : 40 ≤ L) (r__law_moments : Fc P w K mg base L (He.ga K "_law_moments") [] (sp__law_moments K d)) : ∃ fd, FunD K "_law_moments" "_law_moments" (defArgs s__law_moments) (defBody s__law_moments) (defScope s__law_moments) [] [] (He.ga K "_law_moments") fd ∧ Fb P w K mg base (L + 2) (He.ga K "_law_moments") fd ["_law_short_here"] (sp__law_moments K (d + 1)) := by
  obtain ⟨fd, F⟩ := T.f__law_moments
  refine ⟨fd, F, fb_of F sc__law_moments (fun vs H Q E h => ?_) (fun cdv A outer s H vs Q E hr h => ?_)⟩
  · obtain ⟨a, t, rfl, _⟩ := h
    rfl
  · obtain ⟨a, t, rfl, hD, hn, hok, hl, q⟩ := h
    refine ⟨_, (pss_cons (ps_if (pt_cmpR op_eq (pe_ix ix_tup (pv 0) pe_int (fun _ _ => rfl)) pe_str (nomark _))
      (pss_one (ps_ret (pe_lst (pa_cons (pe_ix ix_tup (pv 0) pe_int (fun _ _ => rfl)) pa_nil))))
      pss_nil)
      (pss_cons (ps_set (i := 1) sc__law_moments.nd rfl (Or.inl rfl) (c_call (ok__law_row_moments T hL r__law_moments) (hr.mono (by omega)) T.g__law_row_moments T.k__law_row_moments takes0 (pa_cons (pe_ix ix_tup (pv 0) pe_int (fun _ _ => rfl)) pa_nil)))
      (pss_cons (ps_set (i := 2) sc__law_moments.nd rfl (Or.inl rfl) (pe_lst pa_nil))
      (pss_cons (ps_for (passes_of rfl) rfl (pi_range1 (by rfl) T.n_range (pa_cons (pe_ix ix_tup (pv 0) pe_int (fun _ _ => rfl)) pa_nil)) (pg_name (i := 3) sc__law_moments.nd rfl (Or.inr rfl))
      (pss_one (ps_expr (pe_bm PySem.F.plainAttrs_list PySem.F.slot_list_extend PySem.F.type_list_extend mt_extend (pv 2) (pa_cons (pe_lc (own := [("_law_moment", 4)]) (by rfl) sc__law_moments.nd (pi_list (pv 1)) (blkOk_by (own := [("_law_moment", 4)]) (N := ["_law_short_here", "_law_own", "_law_found", "_law_time_here", "_law_moment"]) (sc := defScope s__law_moments) (by decide +kernel)) (fun _ _ _ _ _ => (pg_name (i := 4) sc__law_moments.nd rfl (Or.inl rfl))) (fun _ _ _ _ _ => pts_nil) (fun _ _ _ _ _ => (pe_op op_add (pv 4) (pe_op op_mul (pv 3) (pe_ix (ix_tupK K) (pv 0) pe_int (fun _ _ => rfl)))))) pa_nil)))))
      (pss_one (ps_ret (pv 2))))))), ?_⟩
    cases t with
    | «at» n =>
      unfold DtAt at hD
      refine ⟨_, rfl, a, _, 0, _, rfl, rfl, sq_tup hD, rfl, rfl, _, rfl, iteT ?_⟩
      refine ⟨_, rfl, a, _, 1, _, rfl, rfl, sq_tup hD, rfl, by show 1 ≤ sizeLine; decide, fun p np => q p _ (ex_new np) np ?_⟩
      rw [upd_same]
      unfold Tr.moms
      rfl
    | ov ps m s_ =>
      unfold DtAt at hD
      obtain ⟨r, as, hD, hr2, hA⟩ := hD
      obtain ⟨_, m2, hm, hml, hl2, hpl, hokL⟩ := ov_facts hok
      unfold Tr.moms at q
      refine ⟨_, rfl, a, _, 0, _, rfl, rfl, sq_tup hD, rfl, rfl, _, rfl, iteF ?_⟩
      generalize hns : momsL ps = ns at *
      refine ⟨_, rfl, a, _, 1, _, rfl, rfl, sq_tup hD, rfl, r, as, ps, rfl, hr2, hA, fun t ht => ?_, hokL, by rw [hns]; exact hl2, fun w H1 X1 nw hw => ?_⟩
      · have := nestL_mem ht
        unfold Tr.nest at hn
        omega
      rw [hns] at hw
      refine ⟨by show 0 ≤ sizeLine; decide, fun f nf => ?_⟩
      have nf0 := ex_fresh X1 nf
      have X2 := X1.trans (ex_new (o := .lst []) nf)
      have wf : w ≠ f := ne_of_none hw nf
      have af : a ≠ f := ne_of_none hD nf0
      have ha2 := X2 _ _ hD
      have hw2 := ex_new (o := .lst []) nf _ _ hw
      have hf2 : upd H1 f (.lst []) f = some (.lst []) := upd_same
      generalize upd H1 f (.lst []) = H2 at X2 ha2 hw2 hf2 ⊢
      refine ⟨_, rfl, a, _, 2, _, rfl, rfl, sq_tup ha2, rfl, _, rfl, by omega, by omega, for_range (fun i σ H' => Oth f H2 H' ∧ ∃ v3 v4, σ = [some (.ref a), some (.ref w), some (.ref f), v3, v4] ∧ H' f = some (.lst (natV (overN ns i s_)))) ⟨Oth.refl _ _, _, _, rfl, hf2⟩ ?_ ?_⟩
      · rintro i σ H3 hi ⟨O3, v3, v4, rfl, hf3⟩
        have hi2 : i < m := by omega
        have hw3 := O3 _ _ wf hw2
        have ha3 := O3 _ _ af ha2
        have ll : (overN ns i s_).length = i * ns.length := overN_len ns i s_
        have l2 : i * ns.length ≤ m * ns.length := Nat.mul_le_mul_right _ (by omega)
        refine ⟨_, rfl, .inl ⟨rfl, _, sq_lst hf3⟩, _, rfl, w, rfl, ⟨_, sq_lst hw3⟩, fun A nA => lc_on ns (fun n : Nat => V.int n) L2.walk_list (fun n => some (.int ((n + i * s_ : Nat) : Int))) (fun H' => Ex H3 H') (fun H' z e => ex_mut e nA) (.refl _) (by omega) (fun H' e => sq_lst (e _ _ hw3)) (fun j n H4 acc N hn X4 hD la k => ?_) fun H4 X4 d4 => ?_⟩
        · refine ⟨rfl, _, rfl, _, rfl, _, rfl, a, _, 3, _, rfl, rfl, sq_tup (X4 _ _ ha3), rfl, _, _, rfl, rfl, .inl ⟨by omega, by omega⟩, _, _, rfl, rfl, acc, hD, la, ?_⟩
          have e : ((n : Nat) : Int) + (0 + ((i : Nat) : Int)) * ((s_ : Nat) : Int) = ((n + i * s_ : Nat) : Int) := by simp
          show N (upd H4 A (.lst (acc ++ [.int (((n : Nat) : Int) + (0 + ((i : Nat) : Int)) * ((s_ : Nat) : Int))])))
          rw [e]
          exact k H4 X4 hD
        · have ed : ns.filterMap (fun n => some (V.int ((n + i * s_ : Nat) : Int))) = natV (ns.map fun n => n + i * s_) := by
            unfold natV
            rw [List.filterMap_eq_map', List.map_map]
            rfl
          rw [ed] at d4
          refine ⟨f, A, _, _, rfl, rfl, X4 _ _ hf3, d4, sz_le (by rw [natV_len, natV_len, List.length_map, ll]; omega), (O3.trans (ex_oth X4)).upd, _, _, rfl, ?_⟩
          rw [upd_same, overN_succ]
          unfold natV
          rw [List.map_append]
      · rintro σ H3 ⟨O3, v3, v4, rfl, hf3⟩
        rw [show ((m : Nat) : Int).toNat = m by omega] at hf3
        exact ⟨_, rfl, q f H3 (Oth.ex X2 nf0 O3) nf0 hf3⟩
theorem ok__law_moments {P : Program} {w : World} {K : PySem.W.Frag} {mg : Str → Option Value} {base : Heap} (T : Env K mg) {d L : Nat} (hL : 40 ≤ L) (r__law_moments : Fc P w K mg base L (He.ga K "_law_moments") [] (sp__law_moments K d)) : Fc P w K mg base (L + 2) (He.ga K "_law_moments") [] (sp__law_moments K (d + 1)) := by
  obtain ⟨fd, D, F⟩ := fb__law_moments T hL r__law_moments
  exact F.all (D.bindsN fun _ _ _ _ _ _ us hl => match us, hl with | [_], _ => rfl)
theorem all__law_moments {P : Program} {w : World} {K : PySem.W.Frag} {mg : Str → Option Value} {base : Heap} (T : Env K mg) : ∀ d, Fc P w K mg base (40 + 2 * d) (He.ga K "_law_moments") [] (sp__law_moments K d)
  | 0 => fc_no fun vs H Q E h => by
    obtain ⟨a, t, _, _, h, _⟩ := h
    omega
  | d + 1 => ok__law_moments T (Nat.le_add_right 40 _) (all__law_moments T d)
end
section
def sp__law_wide (K : PySem.W.Frag) : Sp := fun vs H Q _ => ∃ p, vs = [.ref p] ∧ Pot H p ∧ ∀ (n : Nat) H', n < 10 ^ 20 → PotOn H H' p → Q (.int (n : Nat)) H'
theorem fb__law_wide {P : Program} {w : World} {K : PySem.W.Frag} {mg : Str → Option Value} {base : Heap} (T : Env K mg) : ∃ fd, FunD K "_law_wide" "_law_wide" (defArgs s__law_wide) (defBody s__law_wide) (defScope s__law_wide) [] [] (He.ga K "_law_wide") fd ∧ Fb P w K mg base 2 (He.ga K "_law_wide") fd ["_law_pot_here"] (sp__law_wide K) := by
  obtain ⟨fd, F⟩ := T.f__law_wide
  refine ⟨fd, F, fb_of F sc__law_wide (fun vs H Q E h => ?_) (fun cdv A outer s H vs Q E hr h => ?_)⟩
  · obtain ⟨p, rfl, _⟩ := h
    rfl
  · obtain ⟨p, rfl, hp, q⟩ := h
    refine ⟨_, (pss_cons (ps_set (i := 1) sc__law_wide.nd rfl (Or.inl rfl) pe_int)
      (pss_cons (ps_for (passes_of rfl) rfl (pi_range1 (by rfl) T.n_range (pa_cons pe_int pa_nil)) (pg_name (i := 2) sc__law_wide.nd rfl (Or.inl rfl))
      (pss_one (ps_set (i := 1) sc__law_wide.nd rfl (Or.inl rfl) (pe_op op_add (pe_op op_mul (pv 1) (pe_op op_pow pe_int pe_int)) (c_call (ok__law_draw T) (hr.mono (by decide)) T.g__law_draw T.k__law_draw takes0 (pa_cons (pv 0) (pa_cons (pe_op op_pow pe_int pe_int) pa_nil)))))))
      (pss_one (ps_ret (pe_op op_mod (pv 1) (pe_op op_pow pe_int pe_int)))))), ?_⟩
    refine ⟨_, rfl, by decide, by decide, for_range (fun i σ H' => PotOn H H' p ∧ ∃ (f : Nat) (v3 : Option V), σ = [some (.ref p), some (.int (f : Nat)), v3]) ⟨.refl hp, 0, _, rfl⟩ ?_ ?_⟩
    · rintro i σ H2 hi ⟨P2, f, v3, rfl⟩
      refine ⟨_, rfl, _, _, rfl, rfl, ⟨by decide, by decide, by decide⟩, _, _, rfl, rfl, .inr (by decide), _, rfl, _, _, rfl, rfl, ⟨by decide, by decide, by decide⟩, p, _, rfl, P2.1, by decide, by decide, fun d H3 d0 d1 P3 => ⟨_, _, rfl, rfl, P2.trans P3, ?_⟩⟩
      obtain ⟨n, rfl⟩ := Int.eq_ofNat_of_zero_le d0
      refine ⟨f * 10 ^ 9 + n, some (.int (0 + (i : Nat))), ?_⟩
      have e : ((f * 10 ^ 9 + n : Nat) : Int) = ((f : Nat) : Int) * (10 : Int) ^ (9 : Int).toNat + ((n : Nat) : Int) := by
        rw [Int.natCast_add, Int.natCast_mul]
        rfl
      rw [e]
      rfl
    · rintro σ H2 ⟨P2, f, v3, rfl⟩
      refine ⟨_, rfl, _, _, rfl, rfl, ⟨by decide, by decide, by decide⟩, _, _, rfl, rfl, (by show (0 : Int) < 10 ^ 20; decide), ?_⟩
      have e : ((f : Nat) : Int) % (10 : Int) ^ (20 : Int).toNat = ((f % 10 ^ 20 : Nat) : Int) := by
        rw [Int.natCast_emod]
        rfl
      show Q (.int (((f : Nat) : Int) % (10 : Int) ^ (20 : Int).toNat)) H2
      rw [e]
      exact q _ H2 (Nat.mod_lt _ (by decide +kernel)) P2
theorem ok__law_wide {P : Program} {w : World} {K : PySem.W.Frag} {mg : Str → Option Value} {base : Heap} (T : Env K mg) : Fc P w K mg base 2 (He.ga K "_law_wide") [] (sp__law_wide K ) := by
  obtain ⟨fd, D, F⟩ := fb__law_wide T
  exact F.all (D.bindsN fun _ _ _ _ _ _ us hl => match us, hl with | [_], _ => rfl)
end
section
def sp__law_gap (K : PySem.W.Frag) : Sp := fun vs H Q _ => ∃ p, vs = [.ref p] ∧ Pot H p ∧ ∀ (n : Nat) H', n < 10 ^ 20 → PotOn H H' p → Q (.int (n : Nat)) H'
theorem fb__law_gap {P : Program} {w : World} {K : PySem.W.Frag} {mg : Str → Option Value} {base : Heap} (T : Env K mg) : ∃ fd, FunD K "_law_gap" "_law_gap" (defArgs s__law_gap) (defBody s__law_gap) (defScope s__law_gap) [] [] (He.ga K "_law_gap") fd ∧ Fb P w K mg base 3 (He.ga K "_law_gap") fd ["_law_pot_here"] (sp__law_gap K) := by
  obtain ⟨fd, F⟩ := T.f__law_gap
  refine ⟨fd, F, fb_of F sc__law_gap (fun vs H Q E h => ?_) (fun cdv A outer s H vs Q E hr h => ?_)⟩
  · obtain ⟨p, rfl, _⟩ := h
    rfl
  · obtain ⟨p, rfl, hp, q⟩ := h
    refine ⟨_, (pss_cons (ps_set (i := 1) sc__law_gap.nd rfl (Or.inl rfl) (c_call (ok__law_draw T) (hr.mono (by decide)) T.g__law_draw T.k__law_draw takes0 (pa_cons (pv 0) (pa_cons pe_int pa_nil))))
      (pss_cons (ps_if (pt_cmpR op_lt (pv 1) pe_int (nomark _))
      (pss_one (ps_ret pe_int))
      pss_nil)
      (pss_cons (ps_if (pt_cmpR op_lt (pv 1) pe_int (nomark _))
      (pss_one (ps_ret (c_call (ok__law_draw T) (hr.mono (by decide)) T.g__law_draw T.k__law_draw takes0 (pa_cons (pv 0) (pa_cons pe_int pa_nil)))))
      pss_nil)
      (pss_cons (ps_if (pt_cmpR op_eq (pv 1) pe_int (nomark _))
      (pss_one (ps_ret (pe_op op_mul pe_int (c_call (ok__law_draw T) (hr.mono (by decide)) T.g__law_draw T.k__law_draw takes0 (pa_cons (pv 0) (pa_cons pe_int pa_nil))))))
      pss_nil)
      (pss_cons (ps_if (pt_cmpR op_eq (pv 1) pe_int (nomark _))
      (pss_one (ps_ret (c_call (ok__law_draw T) (hr.mono (by decide)) T.g__law_draw T.k__law_draw takes0 (pa_cons (pv 0) (pa_cons pe_int pa_nil)))))
      pss_nil)
      (pss_cons (ps_if (pt_cmpR op_eq (pv 1) pe_int (nomark _))
      (pss_one (ps_ret (pe_op op_mul pe_int (c_call (ok__law_draw T) (hr.mono (by decide)) T.g__law_draw T.k__law_draw takes0 (pa_cons (pv 0) (pa_cons pe_int pa_nil))))))
      pss_nil)
      (pss_one (ps_ret (c_call (ok__law_wide T) (hr.mono (by decide)) T.g__law_wide T.k__law_wide takes0 (pa_cons (pv 0) pa_nil)))))))))), ?_⟩
    have big : ∀ {n : Nat}, n ≤ 1000000 → n < 10 ^ 20 := fun {n} h => Nat.lt_of_le_of_lt h (by decide +kernel)
    refine ⟨_, rfl, p, 9, rfl, hp, by decide, by decide, fun way H1 w0 w1 P1 => ?_⟩
    refine ⟨_, rfl, _, _, rfl, rfl, _, rfl, ite2 (fun _ => ?_) (fun _ => ?_)⟩
    · exact q 0 H1 (by decide +kernel) P1
    refine ⟨_, rfl, _, _, rfl, rfl, _, rfl, ite2 (fun _ => ?_) (fun _ => ?_)⟩
    · refine ⟨_, rfl, p, 6, rfl, P1.1, by decide, by decide, fun d H2 d0 d1 P2 => ?_⟩
      obtain ⟨n, rfl⟩ := Int.eq_ofNat_of_zero_le d0
      exact q n H2 (big (by omega)) (P1.trans P2)
    refine ⟨_, rfl, rfl, _, rfl, ite2 (fun _ => ?_) (fun _ => ?_)⟩
    · refine ⟨_, rfl, p, 24, rfl, P1.1, by decide, by decide, fun d H2 d0 d1 P2 => ⟨_, _, rfl, rfl, .inl (by decide), ?_⟩⟩
      obtain ⟨n, rfl⟩ := Int.eq_ofNat_of_zero_le d0
      have e : (60 : Int) * ((n : Nat) : Int) = ((60 * n : Nat) : Int) := by omega
      show Q (.int ((60 : Int) * ((n : Nat) : Int))) H2
      rw [e]
      exact q _ H2 (big (by omega)) (P1.trans P2)
    refine ⟨_, rfl, rfl, _, rfl, ite2 (fun _ => ?_) (fun _ => ?_)⟩
    · refine ⟨_, rfl, p, 1440, rfl, P1.1, by decide, by decide, fun d H2 d0 d1 P2 => ?_⟩
      obtain ⟨n, rfl⟩ := Int.eq_ofNat_of_zero_le d0
      exact q n H2 (big (by omega)) (P1.trans P2)
    refine ⟨_, rfl, rfl, _, rfl, ite2 (fun _ => ?_) (fun _ => ?_)⟩
    · refine ⟨_, rfl, p, 100, rfl, P1.1, by decide, by decide, fun d H2 d0 d1 P2 => ⟨_, _, rfl, rfl, .inl (by decide), ?_⟩⟩
      obtain ⟨n, rfl⟩ := Int.eq_ofNat_of_zero_le d0
      have e : (1440 : Int) * ((n : Nat) : Int) = ((1440 * n : Nat) : Int) := by omega
      show Q (.int ((1440 : Int) * ((n : Nat) : Int))) H2
      rw [e]
      exact q _ H2 (big (by omega)) (P1.trans P2)
    exact ⟨_, rfl, p, rfl, P1.1, fun n H2 hn P2 => q n H2 hn (P1.trans P2)⟩
theorem ok__law_gap {P : Program} {w : World} {K : PySem.W.Frag} {mg : Str → Option Value} {base : Heap} (T : Env K mg) : Fc P w K mg base 3 (He.ga K "_law_gap") [] (sp__law_gap K ) := by
  obtain ⟨fd, D, F⟩ := fb__law_gap T
  exact F.all (D.bindsN fun _ _ _ _ _ _ us hl => match us, hl with | [_], _ => rfl)
end
section
/-- the pot at p and the list at l are drawn from: everything else stays -/
def PotL (H H' : Hp) (p l : Addr) : Prop := Pot H' p ∧ ∀ b o, b ≠ p → b ≠ l → H b = some o → H' b = some o
theorem PotL.refl {H : Hp} {p l : Addr} (h : Pot H p) : PotL H H p l := ⟨h, fun _ _ _ _ e => e⟩
theorem PotL.trans {H H1 H2 : Hp} {p l : Addr} (a : PotL H H1 p l) (b : PotL H1 H2 p l) : PotL H H2 p l := ⟨b.1, fun c o n1 n2 e => b.2 c o n1 n2 (a.2 c o n1 n2 e)⟩
theorem PotL.on {H H1 H2 : Hp} {p l : Addr} (a : PotL H H1 p l) (b : PotOn H1 H2 p) : PotL H H2 p l := ⟨b.1, fun c o n1 n2 e => b.2 c o n1 (a.2 c o n1 n2 e)⟩
theorem PotL.ex {H H1 H2 : Hp} {p l : Addr} (a : PotL H H1 p l) (e : Ex H1 H2) : PotL H H2 p l := by
  obtain ⟨⟨x, y, h, r⟩, k⟩ := a
  exact ⟨⟨x, y, e _ _ h, r⟩, fun b o n1 n2 h => e _ _ (k b o n1 n2 h)⟩
theorem PotL.put {H H1 : Hp} {p l : Addr} {o : HO} (a : PotL H H1 p l) (n : l ≠ p) : PotL H (upd H1 l o) p l := by
  obtain ⟨⟨x, y, h, r⟩, k⟩ := a
  refine ⟨⟨x, y, by rw [upd_ne (Ne.symm n)]; exact h, r⟩, fun b u n1 n2 h => ?_⟩
  rw [upd_ne n2]
  exact k b u n1 n2 h
theorem PotL.put2 {H H1 : Hp} {p l f : Addr} {o : HO} (a : PotL H H1 p l) (nf : H f = none) (n : f ≠ p) : PotL H (upd H1 f o) p l := by
  obtain ⟨⟨x, y, h, r⟩, k⟩ := a
  refine ⟨⟨x, y, by rw [upd_ne (Ne.symm n)]; exact h, r⟩, fun b u n1 n2 h => ?_⟩
  rw [upd_ne (ne_of_none h nf)]
  exact k b u n1 n2 h
theorem potL_ne {H H' : Hp} {p l f : Addr} (P : PotL H H' p l) (n : H' f = none) : f ≠ p := fun z => by
  obtain ⟨_, _, e, _⟩ := P.1
  rw [z, e] at n
  cases n
/-- tuples stay -/
theorem PotL.tup {H H' : Hp} {p l : Addr} {ys : List V} (hp : Pot H p) (hl : H l = some (.lst ys)) (P : PotL H H' p l) : ∀ b xs, H b = some (.tup xs) → H' b = some (.tup xs) := fun b xs e => by
  obtain ⟨x, y, h, _⟩ := hp
  exact P.2 _ _ (fun z => by rw [z, h] at e; cases e) (fun z => by rw [z, hl] at e; cases e) e
def sp__law_short (K : PySem.W.Frag) (d : Nat) : Sp := fun vs H Q _ => ∃ (p l : Addr) (at_ room deep : Nat) (k : Int), vs = [.ref p, .int (at_ : Nat), .int (room : Nat), .int (deep : Nat), .ref l] ∧ Pot H p ∧ H l = some (.lst [.int k]) ∧ l ≠ p ∧ 1 ≤ room ∧ room ≤ 1440 ∧ deep ≤ 8 ∧ deep + 1 ≤ d ∧ 1 ≤ k ∧ ∀ (a : Addr) (t : Tr) (k' : Int) H', DtAt H' t a → 0 ≤ k' → (t.pcs : Int) + k' ≤ k → t.ok → t.nest ≤ deep → t.moms.headD 0 = at_ → t.moms.length ≤ room → t.moms.getLastD 0 + 1 ≤ at_ + t.moms.length * ((2 * deep + 1) * GAP) → H' l = some (.lst [.int k']) → PotL H H' p l → Q (.ref a) H'
def sp__law_row (K : PySem.W.Frag) (d : Nat) : Sp := fun vs H Q _ => ∃ (p l : Addr) (at_ room deep : Nat) (k : Int), vs = [.ref p, .int (at_ : Nat), .int (room : Nat), .int (deep : Nat), .ref l] ∧ Pot H p ∧ H l = some (.lst [.int k]) ∧ l ≠ p ∧ 1 ≤ room ∧ room ≤ 1440 ∧ deep ≤ 8 ∧ deep + 1 ≤ d ∧ 1 ≤ k ∧ ∀ (r : Addr) (as : List Addr) (ts : List Tr) (k' : Int) H', 0 ≤ k' → (pcsL ts : Int) + k' ≤ k → H' r = some (.tup (as.map V.ref)) → DtsAt H' ts as → ts ≠ [] → okL_ ts → (∀ t ∈ ts, t.nest ≤ deep) → risB ts = true → (momsL ts).headD 0 = at_ → (momsL ts).length ≤ room → (momsL ts).getLastD 0 + 1 ≤ at_ + (momsL ts).length * ((2 * deep + 2) * GAP) → H' l = some (.lst [.int k']) → PotL H H' p l → Q (.ref r) H'
theorem tup_on {H H' : Hp} {p : Addr} (hp : Pot H p) (P : PotOn H H' p) : ∀ b xs, H b = some (.tup xs) → H' b = some (.tup xs) := fun b xs e => P.2 _ _ (pot_other hp e (fun _ _ z => by cases z)) e
theorem tup_upd {H : Hp} {f : Addr} {ys : List V} {o : HO} (hf : H f = some (.lst ys)) : ∀ b xs, H b = some (.tup xs) → upd H f o b = some (.tup xs) := fun b xs e => by
  rw [upd_ne (fun z => by rw [z, hf] at e; cases e)]
  exact e
end
section
theorem fb__law_row {P : Program} {w : World} {K : PySem.W.Frag} {mg : Str → Option Value} {base : Heap} (T : Env K mg) {d L : Nat} (hL : 60 ≤ L) (r__law_short : Fc P w K mg base L (He.ga K "_law_short") [] (sp__law_short K d)) : ∃ fd, FunD K "_law_row" "_law_row" (defArgs s__law_row) (defBody s__law_row) (defScope s__law_row) [] [] (He.ga K "_law_row") fd ∧ Fb P w K mg base (L + 1) (He.ga K "_law_row") fd ["_law_pot_here", "_law_at", "_law_room", "_law_deep", "_law_left"] (sp__law_row K (d)) := by
  obtain ⟨fd, F⟩ := T.f__law_row
  refine ⟨fd, F, fb_of F sc__law_row (fun vs H Q E h => ?_) (fun cdv A outer s H vs Q E hr h => ?_)⟩
  · obtain ⟨p, l, at_, room, deep, k, rfl, _⟩ := h
    rfl
  · obtain ⟨p, l, at_, room, deep, k, rfl, hp, hl, lp, r1, r2, d8, dd, k1, q⟩ := h
    refine ⟨_, (pss_cons (ps_set (i := 5) sc__law_row.nd rfl (Or.inl rfl) (pe_lst pa_nil))
      (pss_cons (ps_set (i := 6) sc__law_row.nd rfl (Or.inl rfl) (pv 1))
      (pss_cons (ps_set (i := 7) sc__law_row.nd rfl (Or.inl rfl) (pe_op op_add pe_int (c_call (ok__law_draw T) (hr.mono (by omega)) T.g__law_draw T.k__law_draw takes0 (pa_cons (pv 0) (pa_cons (pe_callB (call_min2 rfl) (by rfl) T.n_min (by decide +kernel) (pa_cons pe_int (pa_cons (pv 2) pa_nil))) pa_nil)))))
      (pss_cons (ps_for (passes_of rfl) rfl (pi_range1 (by rfl) T.n_range (pa_cons (pv 7) pa_nil)) (pg_name (i := 8) sc__law_row.nd rfl (Or.inl rfl))
      (pss_one (ps_if (PW.pt (pw_or (pt_cmpR op_eq (pv 8) pe_int (nomark _)) (pw_or1 (pt_cmpR op_gt (pe_ix ix_list (pv 4) pe_int (fun _ _ => rfl)) pe_int (nomark _)))))
      (pss_cons (ps_set (i := 9) sc__law_row.nd rfl (Or.inl rfl) (c_call r__law_short (hr.mono (by omega)) T.g__law_short T.k__law_short takes0 (pa_cons (pv 0) (pa_cons (pv 6) (pa_cons (pe_op op_fdiv (pv 2) (pv 7)) (pa_cons (pv 3) (pa_cons (pv 4) pa_nil)))))))
      (pss_cons (ps_expr (pe_bm PySem.F.plainAttrs_list PySem.F.slot_list_append PySem.F.type_list_append mt_append (pv 5) (pa_cons (pv 9) pa_nil)))
      (pss_one (ps_set (i := 6) sc__law_row.nd rfl (Or.inl rfl) (pe_op op_add (pe_op op_add (pe_ix ix_list (c_call (all__law_moments T 9) (hr.mono (by omega)) T.g__law_moments T.k__law_moments takes0 (pa_cons (pv 9) pa_nil)) (pe_un un_neg pe_int) (fun _ _ => rfl)) pe_int) (c_call (ok__law_gap T) (hr.mono (by omega)) T.g__law_gap T.k__law_gap takes0 (pa_cons (pv 0) pa_nil)))))))
      pss_nil)))
      (pss_one (ps_ret (pe_callTy call_tuple_of (by rfl) T.n_tuple (by decide +kernel) (pa_cons (pv 5) pa_nil)))))))), ?_⟩
    refine ⟨by show 0 ≤ sizeLine; decide, fun f nf => ?_⟩
    have fp : f ≠ p := potL_ne (.refl hp (l := l)) nf
    have fl : f ≠ l := fun z => by rw [z, hl] at nf; cases nf
    have P1 : PotL H (upd H f (.lst [])) p l := (PotL.refl hp).ex (ex_new nf)
    have hf1 : upd H f (.lst []) f = some (.lst []) := upd_same
    have hl1 : upd H f (.lst []) l = some (.lst [.int k]) := ex_new nf _ _ hl
    generalize upd H f (.lst []) = H1 at P1 hf1 hl1 ⊢
    refine ⟨_, rfl, ?_⟩
    have em : (if ((room : Nat) : Int) < 3 then ((room : Nat) : Int) else 3) = ((min 3 room : Nat) : Int) := by split <;> omega
    refine ⟨_, rfl, _, rfl, _, _, rfl, p, _, rfl, P1.1, by rw [em]; omega, by rw [em]; omega, fun dv H2 d0 d1 P2 => ⟨_, _, rfl, rfl, ?_⟩⟩
    rw [em] at d1
    obtain ⟨e, rfl⟩ := Int.eq_ofNat_of_zero_le d0
    obtain ⟨mny, hmny⟩ : ∃ n : Nat, n = 1 + e := ⟨_, rfl⟩
    have e1 : (1 : Int) + ((e : Nat) : Int) = ((mny : Nat) : Int) := by omega
    have mn1 : 1 ≤ mny ∧ mny ≤ 3 ∧ mny ≤ room := by omega
    have P2' := P1.on P2
    have rq : 1 ≤ room / mny := (Nat.le_div_iff_mul_le (by omega)).mpr (by omega)
    have rq2 : room / mny ≤ 1440 := Nat.le_trans (Nat.div_le_self _ _) r2
    have rq3 : mny * (room / mny) ≤ room := Nat.mul_div_le _ _
    obtain ⟨W, hW⟩ : ∃ W, W = (2 * deep + 1) * GAP := ⟨_, rfl⟩
    have hW2 : (2 * deep + 2) * GAP = W + GAP := by rw [hW, ← Nat.succ_mul]
    refine ⟨_, rfl, _, rfl, by show -(2 ^ 62) ≤ (1 : Int) + ((e : Nat) : Int); omega, by show (1 : Int) + ((e : Nat) : Int) < 2 ^ 62; omega, for_range (fun i σ H' => PotL H H' p l ∧ ∃ (ts : List Tr) (as : List Addr) (here : Nat) (k' : Int) (v8 v9 : Option V), H' f = some (.lst (as.map V.ref)) ∧ DtsAt H' ts as ∧ okL_ ts ∧ (∀ t ∈ ts, t.nest ≤ deep) ∧ risB ts = true ∧ (i = 0 → ts = [] ∧ here = at_) ∧ (0 < i → ts ≠ []) ∧ (ts ≠ [] → (momsL ts).headD 0 = at_ ∧ (momsL ts).getLastD 0 < here ∧ (momsL ts).getLastD 0 + 1 ≤ at_ + (momsL ts).length * (W + GAP)) ∧ here ≤ at_ + (momsL ts).length * (W + GAP) ∧ (momsL ts).length ≤ i * (room / mny) ∧ ts.length ≤ i ∧ 0 ≤ k' ∧ (pcsL ts : Int) + k' ≤ k ∧ (i = 0 → k' = k) ∧ H' l = some (.lst [.int k']) ∧ σ = [some (.ref p), some (.int (at_ : Nat)), some (.int (room : Nat)), some (.int (deep : Nat)), some (.ref l), some (.ref f), some (.int (here : Nat)), some (.int ((1 : Int) + ((e : Nat) : Int))), v8, v9]) ⟨P2', [], [], at_, k, _, _, P2.2 _ _ fp hf1, by unfold DtsAt; rfl, by unfold okL_; trivial, (fun t z => nomatch z), rfl, fun _ => ⟨rfl, rfl⟩, fun z => absurd z (Nat.lt_irrefl _), fun z => absurd rfl z, by omega, Nat.zero_le _, Nat.le_refl _, by omega, by simp [pcsL], fun _ => rfl, P2.2 _ _ lp hl1, rfl⟩ ?_ ?_⟩
    · rintro i σ H3 hi ⟨P3, ts, as, here, k', v8, v9, hf, hD, hok, hne, hri, hi0, hi1, hfa, hhe, hle, htl, kz, kp, ki, hl3, rfl⟩
      have hi' : i < mny := by omega
      have draw : 1 ≤ k' → (tSeq (tAsg (tFc (sp__law_short K d) (fun _ _ _ _ => False) (tCons (tVar 0) (tCons (tVar 6) (tCons (tOp (rI CDiv fun i j => V.int (i / j)) (tVar 2) (tVar 7)) (tCons (tVar 3) (tCons (tVar 4) tNil)))))) (gName 9)) (tSeq (tDrop (tBM K "list" rAppend (tVar 5) (tCons (tVar 9) tNil))) (tAsg (tOp (rI0 fun i j => V.int (i + j)) (tOp (rI0 fun i j => V.int (i + j)) (tOp (rIxL K) (tFc (sp__law_moments K 9) (fun _ _ _ _ => False) (tCons (tVar 9) tNil)) (tUn (rU fun i => V.int (-i)) (tC (V.int 1)))) (tC (V.int 1))) (tFc (sp__law_gap K) (fun _ _ _ _ => False) (tCons (tVar 0) tNil))) (gName 6)))) { nx := fun σ H' => PotL H H' p l ∧ ∃ (ts : List Tr) (as : List Addr) (here : Nat) (k' : Int) (v8 v9 : Option V), H' f = some (.lst (as.map V.ref)) ∧ DtsAt H' ts as ∧ okL_ ts ∧ (∀ t ∈ ts, t.nest ≤ deep) ∧ risB ts = true ∧ (i + 1 = 0 → ts = [] ∧ here = at_) ∧ (0 < i + 1 → ts ≠ []) ∧ (ts ≠ [] → (momsL ts).headD 0 = at_ ∧ (momsL ts).getLastD 0 < here ∧ (momsL ts).getLastD 0 + 1 ≤ at_ + (momsL ts).length * (W + GAP)) ∧ here ≤ at_ + (momsL ts).length * (W + GAP) ∧ (momsL ts).length ≤ (i + 1) * (room / mny) ∧ ts.length ≤ i + 1 ∧ 0 ≤ k' ∧ (pcsL ts : Int) + k' ≤ k ∧ (i + 1 = 0 → k' = k) ∧ H' l = some (.lst [.int k']) ∧ σ = [some (.ref p), some (.int (at_ : Nat)), some (.int (room : Nat)), some (.int (deep : Nat)), some (.ref l), some (.ref f), some (.int (here : Nat)), some (.int ((1 : Int) + ((e : Nat) : Int))), v8, v9], rt := Q } [some (.ref p), some (.int (at_ : Nat)), some (.int (room : Nat)), some (.int (deep : Nat)), some (.ref l), some (.ref f), some (.int (here : Nat)), some (.int ((1 : Int) + ((e : Nat) : Int))), some (.int (0 + (i : Nat))), v9] H3 := fun kk => by
        have ed : ((room : Nat) : Int) / ((1 : Int) + ((e : Nat) : Int)) = ((room / mny : Nat) : Int) := by
          rw [e1]
          exact (Int.natCast_ediv room mny).symm
        refine ⟨_, rfl, _, rfl, _, rfl, _, rfl, _, _, rfl, rfl, ⟨by omega, by omega⟩, _, rfl, _, rfl, p, l, here, room / mny, deep, k', by rw [← ed], P3.1, hl3, lp, rq, rq2, d8, dd, kk, fun a t k2 H4 hDt kz2 kp2 htok htn hth htl2 htb hl4 P4 => ?_⟩
        have P34 := P3.trans P4
        have hf4 := P4.2 _ _ fp fl hf
        have hD4 : DtsAt H4 ts as := hD.keep (P4.tup P3.1 hl3)
        have al := hD.len
        have B1 := pos_moms t htok
        refine ⟨_, rfl, .inl ⟨rfl, _, sq_lst hf4⟩, _, rfl, f, _, _, rfl, rfl, hf4, small_len (by rw [List.length_map]; omega), ?_⟩
        have P5 := P34.put2 (o := .lst (as.map V.ref ++ [.ref a])) nf fp
        have hf5 : upd H4 f (.lst (as.map V.ref ++ [.ref a])) f = some (.lst ((as ++ [a]).map V.ref)) := by rw [upd_same, List.map_append]; rfl
        have hl5 : upd H4 f (.lst (as.map V.ref ++ [.ref a])) l = some (.lst [.int k2]) := by rw [upd_ne (Ne.symm fl)]; exact hl4
        have hDt5 : DtAt (upd H4 f (.lst (as.map V.ref ++ [.ref a]))) t a := hDt.keep (tup_upd hf4)
        have hD5 : DtsAt (upd H4 f (.lst (as.map V.ref ++ [.ref a]))) (ts ++ [t]) (as ++ [a]) := (hD4.keep (tup_upd hf4)).snoc hDt5
        generalize upd H4 f (.lst (as.map V.ref ++ [.ref a])) = H5 at P5 hf5 hl5 hDt5 hD5 ⊢
        refine ⟨_, rfl, a, t, rfl, hDt5, by omega, htok, by omega, fun u H6 X6 nu hu => ?_⟩
        have P6 := P5.ex X6
        refine ⟨_, rfl, u, _, _, _, rfl, rfl, sq_lst hu, at_lastN (moms_ne htok), _, _, rfl, rfl, _, rfl, p, rfl, P6.1, fun g H7 hg P7 => ⟨_, _, rfl, rfl, ?_⟩⟩
        have lenE : (momsL (ts ++ [t])).length = (momsL ts).length + t.moms.length := by rw [momsL_snoc, List.length_append]
        have eM : ((momsL ts).length + t.moms.length) * (W + GAP) = (momsL ts).length * (W + GAP) + (t.moms.length * W + t.moms.length * GAP) := by rw [Nat.add_mul, Nat.mul_add t.moms.length]
        have eG : GAP ≤ t.moms.length * GAP := Nat.le_mul_of_pos_left _ B1
        have gG : g < GAP := Nat.lt_trans hg (by decide +kernel)
        have tne : ts ++ [t] ≠ [] := by simp
        have lastE : (momsL (ts ++ [t])).getLastD 0 = t.moms.getLastD 0 := by rw [momsL_snoc, lastD_app (moms_ne htok)]
        have htb' : t.moms.getLastD 0 + 1 ≤ here + t.moms.length * W := by rw [hW]; exact htb
        refine ⟨P6.on P7, ts ++ [t], as ++ [a], t.moms.getLastD 0 + 1 + g, k2, some (.int (0 + (i : Nat))), some (.ref a), P7.2 _ _ fp (X6 _ _ hf5), (hD5.mono X6).keep (tup_on P6.1 P7), okL_snoc hok htok, fun x hx => ?_, risB_snoc hok hri fun z => by rw [hth]; exact (hfa z).2.1, fun z => by omega, fun _ => tne, fun _ => ⟨?_, by rw [lastE]; omega, by rw [lastE, lenE, eM]; omega⟩, by rw [lenE, eM]; omega, ?_, by rw [List.length_append]; show _ + 1 ≤ _; omega, kz2, by rw [pcsL_app, show pcsL [t] = t.pcs by simp [pcsL]]; omega, (fun z => by omega), P7.2 _ _ lp (X6 _ _ hl5), ?_⟩
        · rcases List.mem_append.mp hx with hx | hx
          · exact hne x hx
          · rw [List.mem_singleton.mp hx]
            exact htn
        · by_cases t0 : ts = []
          · subst t0
            have : i = 0 := Decidable.by_contra fun z => hi1 (by omega) rfl
            rw [momsL_snoc]
            show t.moms.headD 0 = at_
            rw [hth]
            exact (hi0 this).2
          · rw [momsL_snoc, headD_app (momsL_ne hok t0)]
            exact (hfa t0).1
        · rw [lenE, Nat.add_mul, Nat.one_mul]
          omega
        · have e9 : ((t.moms.getLastD 0 + 1 + g : Nat) : Int) = ((t.moms.getLastD 0 : Nat) : Int) + 1 + ((g : Nat) : Int) := by omega
          rw [e9]
          rfl
      refine ⟨_, rfl, rfl, _, rfl, ite2 (fun cz => ?_) (fun c0 => ?_)⟩
      · exact draw (by
          have z := of_decide_eq_true cz
          injection z with z
          have := ki (by omega)
          omega)
      · refine ⟨_, rfl, l, _, 0, _, rfl, rfl, sq_lst hl3, rfl, _, _, rfl, rfl, _, rfl, ite2 (fun cz => draw (by have := of_decide_eq_true cz; omega)) (fun _ => ?_)⟩
        have i0 : i ≠ 0 := fun z => c0 (by rw [z]; rfl)
        refine ⟨P3, ts, as, here, k', _, _, hf, hD, hok, hne, hri, (fun z => by omega), fun _ => hi1 (by omega), hfa, hhe, Nat.le_trans hle (Nat.mul_le_mul_right _ (by omega)), by omega, kz, kp, (fun z => by omega), hl3, rfl⟩
    · rintro σ H3 ⟨P3, ts, as, here, k', v8, v9, hf, hD, hok, hne, hri, hi0, hi1, hfa, hhe, hle, htl, kz, kp, ki, hl3, rfl⟩
      have en : ((1 : Int) + ((e : Nat) : Int)).toNat = mny := by omega
      rw [en] at hi1 hle
      have ts0 := hi1 (by omega)
      refine ⟨_, rfl, f, _, rfl, .inl ⟨sq_lst hf, fun r nr => ?_⟩⟩
      have X4 := ex_new (o := .tup (as.map V.ref)) nr
      obtain ⟨g1, g2, g3⟩ := hfa ts0
      exact q r as ts k' _ kz kp upd_same (hD.mono X4) ts0 hok hne hri g1 (by omega) (by rw [hW2]; exact g3) (X4 _ _ hl3) (P3.ex X4)
theorem ok__law_row {P : Program} {w : World} {K : PySem.W.Frag} {mg : Str → Option Value} {base : Heap} (T : Env K mg) {d L : Nat} (hL : 60 ≤ L) (r__law_short : Fc P w K mg base L (He.ga K "_law_short") [] (sp__law_short K d)) : Fc P w K mg base (L + 1) (He.ga K "_law_row") [] (sp__law_row K (d)) := by
  obtain ⟨fd, D, F⟩ := fb__law_row T hL r__law_short
  exact F.all (D.bindsN fun _ _ _ _ _ _ us hl => match us, hl with | [_, _, _, _, _], _ => rfl)
end
section
theorem fb__law_short {P : Program} {w : World} {K : PySem.W.Frag} {mg : Str → Option Value} {base : Heap} (T : Env K mg) {d L : Nat} (hL : 60 ≤ L) (r__law_short : Fc P w K mg base L (He.ga K "_law_short") [] (sp__law_short K d)) : ∃ fd, FunD K "_law_short" "_law_short" (defArgs s__law_short) (defBody s__law_short) (defScope s__law_short) [] [] (He.ga K "_law_short") fd ∧ Fb P w K mg base (L + 2) (He.ga K "_law_short") fd ["_law_pot_here", "_law_at", "_law_room", "_law_deep", "_law_left"] (sp__law_short K (d + 1)) := by
  obtain ⟨fd, F⟩ := T.f__law_short
  refine ⟨fd, F, fb_of F sc__law_short (fun vs H Q E h => ?_) (fun cdv A outer s H vs Q E hr h => ?_)⟩
  · obtain ⟨p, l, at_, room, deep, k, rfl, _⟩ := h
    rfl
  · obtain ⟨p, l, at_, room, deep, k, rfl, hp, hl, lp, r1, r2, d8, dd, k1, q⟩ := h
    refine ⟨_, (pss_cons (ps_asg (pe_op op_sub (pe_ix ix_list (pv 4) pe_int (fun _ _ => rfl)) pe_int) (pg_sub (pv 4) pe_int set_list))
      (Evl.pss_cut (ps_if (PW.pt (pw_or (pt_cmpR op_eq (c_call (ok__law_draw T) (hr.mono (by omega)) T.g__law_draw T.k__law_draw takes0 (pa_cons (pv 0) (pa_cons pe_int pa_nil))) pe_int (nomark _)) (pw_or (pt_cmpR op_lt (pv 2) pe_int (nomark _)) (pw_or (pt_cmpR op_eq (pv 3) pe_int (nomark _)) (pw_or1 (pt_cmpR op_lt (pe_ix ix_list (pv 4) pe_int (fun _ _ => rfl)) pe_int (nomark _)))))))
      (pss_one (ps_ret (pe_tup (pa_cons pe_str (pa_cons (pv 1) pa_nil)))))
      pss_nil)
      (pss_cons (ps_set (i := 5) sc__law_short.nd rfl (Or.inl rfl) (c_call (ok__law_row T hL r__law_short) (hr.mono (by omega)) T.g__law_row T.k__law_row takes0 (pa_cons (pv 0) (pa_cons (pv 1) (pa_cons (pe_op op_fdiv (pv 2) pe_int) (pa_cons (pe_op op_sub (pv 3) pe_int) (pa_cons (pv 4) pa_nil)))))))
      (pss_cons (ps_set (i := 6) sc__law_short.nd rfl (Or.inl rfl) (c_call (ok__law_row_moments T (Nat.le_add_right 40 _) (all__law_moments T 9)) (hr.mono (by omega)) T.g__law_row_moments T.k__law_row_moments takes0 (pa_cons (pv 5) pa_nil)))
      (pss_cons (ps_set (i := 7) sc__law_short.nd rfl (Or.inl rfl) (pe_ix ix_list (pe_lst (pa_cons pe_int (pa_cons pe_int (pa_cons pe_int (pa_cons (pv 2) pa_nil))))) (c_call (ok__law_draw T) (hr.mono (by omega)) T.g__law_draw T.k__law_draw takes0 (pa_cons (pv 0) (pa_cons pe_int pa_nil))) (fun _ _ => rfl)))
      (pss_cons (ps_set (i := 8) sc__law_short.nd rfl (Or.inl rfl) (pe_op op_add pe_int (c_call (ok__law_draw T) (hr.mono (by omega)) T.g__law_draw T.k__law_draw takes0 (pa_cons (pv 0) (pa_cons (pe_callB (call_min2 rfl) (by rfl) T.n_min (by decide +kernel) (pa_cons (pv 7) (pa_cons (pe_op op_sub (pe_op op_fdiv (pv 2) (pe_callB call_len (by rfl) T.n_len (by decide +kernel) (pa_cons (pv 6) pa_nil))) pe_int) pa_nil))) pa_nil)))))
      (pss_one (ps_ret (pe_tup (pa_cons pe_str (pa_cons (pv 5) (pa_cons (pv 8) (pa_cons (pe_op op_add (pe_op op_add (pe_op op_sub (pe_ix ix_list (pv 6) (pe_un un_neg pe_int) (fun _ _ => rfl)) (pe_ix ix_list (pv 6) pe_int (fun _ _ => rfl))) pe_int) (c_call (ok__law_gap T) (hr.mono (by omega)) T.g__law_gap T.k__law_gap takes0 (pa_cons (pv 0) pa_nil))) pa_nil))))))))))))), ?_⟩
    refine ⟨_, rfl, l, _, 0, _, rfl, rfl, sq_lst hl, rfl, _, _, rfl, rfl, _, rfl, l, _, 0, 0, rfl, rfl, hl, rfl, ?_⟩
    have P1 : ∀ o, PotL H (upd H l o) p l := fun o => (PotL.refl hp).put lp
    have gap1 : 1 ≤ GAP := by decide +kernel
    have fin : ∀ {H2 : Hp}, PotL H H2 p l → H2 l = some (.lst [.int (k - 1)]) → ∀ a, H2 a = none → Q (.ref a) (upd H2 a (.tup [.str "at", .int (at_ : Nat)])) := fun {H2} P2 hl2 a na => by
      have m1 : (Tr.at at_).moms = [at_] := by unfold Tr.moms; rfl
      refine q a (.at at_) (k - 1) _ (by unfold DtAt; exact upd_same) (by omega) (by unfold Tr.pcs; omega) (by unfold Tr.ok; trivial) (by unfold Tr.nest; exact Nat.zero_le _) (by rw [m1]; rfl) (by rw [m1]; exact r1) ?_ (ex_new na _ _ hl2) (P2.ex (ex_new na))
      rw [m1]
      show at_ + 1 ≤ at_ + 1 * ((2 * deep + 1) * GAP)
      have : 1 * 1 ≤ (2 * deep + 1) * GAP := Nat.mul_le_mul (by omega) gap1
      omega
    refine ⟨fun σ' H2 => PotL H H2 p l ∧ H2 l = some (.lst [.int (k - 1)]) ∧ 2 ≤ room ∧ 1 ≤ deep ∧ 2 ≤ k ∧ σ' = [some (.ref p), some (.int (at_ : Nat)), some (.int (room : Nat)), some (.int (deep : Nat)), some (.ref l), none, none, none, none], ?_, ?_⟩
    · refine ⟨_, rfl, p, 3, rfl, (P1 _).1, by decide, by decide, fun dv H2 d0 d1 P2 => ?_⟩
      have PL := (P1 _).on P2
      have hl2 : H2 l = some (.lst [.int (k - 1)]) := P2.2 _ _ lp upd_same
      refine ⟨rfl, _, rfl, ite2 (fun _ => ?_) (fun _ => ?_)⟩
      · exact ⟨_, rfl, by show 2 ≤ sizeLine; decide, fun a na => fin PL hl2 a na⟩
      refine ⟨_, rfl, _, _, rfl, rfl, _, rfl, ite2 (fun _ => ?_) (fun c1 => ?_)⟩
      · exact ⟨_, rfl, by show 2 ≤ sizeLine; decide, fun a na => fin PL hl2 a na⟩
      refine ⟨_, rfl, rfl, _, rfl, ite2 (fun _ => ?_) (fun c2 => ?_)⟩
      · exact ⟨_, rfl, by show 2 ≤ sizeLine; decide, fun a na => fin PL hl2 a na⟩
      refine ⟨_, rfl, l, _, 0, _, rfl, rfl, sq_lst hl2, rfl, _, _, rfl, rfl, _, rfl, ite2 (fun _ => ?_) (fun c3 => ?_)⟩
      · exact ⟨_, rfl, by show 2 ≤ sizeLine; decide, fun a na => fin PL hl2 a na⟩
      have g3 : ¬ k - 1 < 1 := fun z => c3 (decide_eq_true z)
      have g1 : ¬ ((room : Nat) : Int) < 2 := fun z => c1 (decide_eq_true z)
      have g2 : deep ≠ 0 := fun z => c2 (by rw [z]; rfl)
      exact ⟨PL, hl2, by omega, by omega, by omega, rfl⟩
    rintro σ' H2 ⟨P2, hl2, room2, deep1, k2', rfl⟩
    have ed : ((room : Nat) : Int) / 2 = ((room / 2 : Nat) : Int) := by omega
    have ed2 : ((deep : Nat) : Int) - 1 = ((deep - 1 : Nat) : Int) := by omega
    refine ⟨_, rfl, _, rfl, _, rfl, _, _, rfl, rfl, ⟨by decide, by decide⟩, _, rfl, _, _, rfl, rfl, _, rfl, p, l, at_, room / 2, deep - 1, k - 1, by rw [← ed, ← ed2], P2.1, hl2, lp, by omega, by omega, by omega, by omega, by omega, fun r as ts k2 H3 kz kp hr3 hD3 ts0 hok hne hri hhd hlen hlast hl3 P3 => ?_⟩
    have P23 := P2.trans P3
    have B1 : 1 ≤ (momsL ts).length := Nat.le_trans (List.length_pos_iff.mpr ts0) (len_moms hok)
    have nn := momsL_ne hok ts0
    refine ⟨_, rfl, r, as, ts, rfl, hr3, hD3, fun t ht => by have := hne t ht; omega, hok, by omega, fun w H4 X4 nw hw => ?_⟩
    have P4 := P23.ex X4
    have hl4 := X4 _ _ hl3
    have wp : w ≠ p := potL_ne P23 nw
    refine ⟨_, rfl, by show 4 ≤ sizeLine; decide, fun u nu => ?_⟩
    have P5 := P4.ex (ex_new (o := .lst [.int 2, .int 2, .int 2, .int (room : Nat)]) nu)
    have up : u ≠ p := potL_ne P4 nu
    refine ⟨_, rfl, p, 4, rfl, P5.1, by decide, by decide, fun dv H6 d0 d1 P6 => ?_⟩
    obtain ⟨x, hx, ex⟩ := at_mem (xs := [.int 2, .int 2, .int 2, .int (room : Nat)]) d0 (by show dv < 4; exact d1)
    obtain ⟨mo, rfl, mo2⟩ : ∃ mo : Nat, x = .int (mo : Nat) ∧ 2 ≤ mo := by
      simp only [List.mem_cons, List.not_mem_nil, or_false] at hx
      rcases hx with rfl | rfl | rfl | rfl
      · exact ⟨2, rfl, Nat.le_refl _⟩
      · exact ⟨2, rfl, Nat.le_refl _⟩
      · exact ⟨2, rfl, Nat.le_refl _⟩
      · exact ⟨room, rfl, room2⟩
    refine ⟨u, _, _, _, rfl, rfl, sq_lst (P6.2 _ _ up upd_same), ex, ?_⟩
    have hw6 := P6.2 _ _ wp (ex_new (o := .lst [.int 2, .int 2, .int 2, .int (room : Nat)]) nu _ _ hw)
    have PL6 := P5.on P6
    have hl6 := P6.2 _ _ lp (ex_new (o := .lst [.int 2, .int 2, .int 2, .int (room : Nat)]) nu _ _ hl4)
    have hr6 := tup_on P5.1 P6 _ _ (ex_new (o := .lst [.int 2, .int 2, .int 2, .int (room : Nat)]) nu _ _ (X4 _ _ hr3))
    have hD6 := ((hD3.mono X4).mono (ex_new (o := .lst [.int 2, .int 2, .int 2, .int (room : Nat)]) nu)).keep (tup_on P5.1 P6)
    have q2 : 2 ≤ room / (momsL ts).length := (Nat.le_div_iff_mul_le (by omega)).mpr (by omega)
    have q3 : room / (momsL ts).length * (momsL ts).length ≤ room := Nat.div_mul_le_self _ _
    have q4 : room / (momsL ts).length ≤ 1440 := Nat.le_trans (Nat.div_le_self _ _) r2
    have e7 : ((room : Nat) : Int) / (((momsL ts).length : Nat) : Int) = ((room / (momsL ts).length : Nat) : Int) := (Int.natCast_ediv _ _).symm
    have e8 : (if ((room : Nat) : Int) / (((momsL ts).length : Nat) : Int) - 1 < ((mo : Nat) : Int) then ((room : Nat) : Int) / (((momsL ts).length : Nat) : Int) - 1 else ((mo : Nat) : Int)) = ((min mo (room / (momsL ts).length - 1) : Nat) : Int) := by rw [e7]; split <;> omega
    refine ⟨_, rfl, _, rfl, _, rfl, _, rfl, _, (momsL ts).length, rfl, .inl ⟨_, sq_lst hw6, (natV_len _).symm⟩, _, _, rfl, rfl, ⟨by omega, by omega⟩, _, _, rfl, rfl, _, _, rfl, p, _, rfl, PL6.1, by rw [e8]; omega, by rw [e8]; omega, fun dw H7 w0 w1 P7 => ⟨_, _, rfl, rfl, ?_⟩⟩
    rw [e8] at w1
    obtain ⟨dm, rfl⟩ := Int.eq_ofNat_of_zero_le w0
    have hw7 := P7.2 _ _ wp hw6
    have PL7 := PL6.on P7
    have hr7 := tup_on PL6.1 P7 _ _ hr6
    have hD7 := hD6.keep (tup_on PL6.1 P7)
    refine ⟨_, rfl, _, rfl, _, rfl, _, rfl, w, _, _, _, rfl, rfl, sq_lst hw7, at_lastN nn, _, rfl, w, _, _, _, rfl, rfl, sq_lst hw7, at_headN nn, _, _, rfl, rfl, _, _, rfl, rfl, _, rfl, p, rfl, PL7.1, fun g H8 hg P8 => ⟨_, _, rfl, rfl, by show 4 ≤ sizeLine; decide, fun a na => ?_⟩⟩
    have PL8 := PL7.on P8
    have hl8 := P8.2 _ _ lp (P7.2 _ _ lp hl6)
    have hr8 := tup_on PL7.1 P8 _ _ hr7
    have hD8 := hD7.keep (tup_on PL7.1 P8)
    have srt := ris_sorted hok hri
    have hle := le_lastD srt _ (by
      cases hm : momsL ts with
      | nil => exact absurd hm nn
      | cons y ys => exact List.mem_cons_self : (momsL ts).headD 0 ∈ momsL ts)
    obtain ⟨m, hm⟩ : ∃ m : Nat, m = 2 + dm := ⟨_, rfl⟩
    obtain ⟨st, hst⟩ : ∃ st : Nat, st = (momsL ts).getLastD 0 - (momsL ts).headD 0 + 1 + g := ⟨_, rfl⟩
    have em : (2 : Int) + ((dm : Nat) : Int) = ((m : Nat) : Int) := by omega
    have est : (((momsL ts).getLastD 0 : Nat) : Int) - (((momsL ts).headD 0 : Nat) : Int) + 1 + ((g : Nat) : Int) = ((st : Nat) : Int) := by omega
    have X9 := ex_new (o := .tup [.str "over", .ref r, .int (m : Nat), .int (st : Nat)]) na
    have mle : m ≤ room / (momsL ts).length := by omega
    have mlen : m * (momsL ts).length ≤ room := Nat.le_trans (Nat.mul_le_mul_right _ mle) q3
    have okT : (Tr.ov ts m st).ok := by
      unfold Tr.ok
      exact ⟨ts0, by omega, by omega, by omega, by omega, srt, hok⟩
    have eMo : (Tr.ov ts m st).moms = overN (momsL ts) m st := by unfold Tr.moms; rfl
    have hDa : DtAt (upd H8 a (.tup [.str "over", .ref r, .int (m : Nat), .int (st : Nat)])) (.ov ts m st) a := by
      unfold DtAt
      exact ⟨r, as, upd_same, X9 _ _ hr8, hD8.mono X9⟩
    have res := q a (.ov ts m st) k2 _ hDa kz (by unfold Tr.pcs; omega) okT (by
      have := nestL_le hne
      unfold Tr.nest
      omega) (by rw [eMo, overN_head nn m (by omega)]; exact hhd) (by rw [eMo, overN_len]; exact mlen) (by
      rw [eMo, overN_len, overN_last nn (by omega)]
      obtain ⟨m', rfl⟩ : ∃ m', m = m' + 1 := ⟨m - 1, by omega⟩
      have e2 : (2 * (deep - 1) + 2) * GAP = 2 * deep * GAP := by rw [show 2 * (deep - 1) + 2 = 2 * deep by omega]
      rw [e2] at hlast
      have e3 : (2 * deep + 1) * GAP = 2 * deep * GAP + GAP := by rw [Nat.add_mul, Nat.one_mul]
      rw [e3]
      have gG : g < GAP := Nat.lt_trans hg (by decide +kernel)
      exact over_bound (m' := m') hlast (by omega) B1) (X9 _ _ hl8) (PL8.ex X9)
    rw [← em, ← est] at res
    exact res
theorem ok__law_short {P : Program} {w : World} {K : PySem.W.Frag} {mg : Str → Option Value} {base : Heap} (T : Env K mg) {d L : Nat} (hL : 60 ≤ L) (r__law_short : Fc P w K mg base L (He.ga K "_law_short") [] (sp__law_short K d)) : Fc P w K mg base (L + 2) (He.ga K "_law_short") [] (sp__law_short K (d + 1)) := by
  obtain ⟨fd, D, F⟩ := fb__law_short T hL r__law_short
  exact F.all (D.bindsN fun _ _ _ _ _ _ us hl => match us, hl with | [_, _, _, _, _], _ => rfl)
theorem all__law_short {P : Program} {w : World} {K : PySem.W.Frag} {mg : Str → Option Value} {base : Heap} (T : Env K mg) : ∀ d, Fc P w K mg base (60 + 2 * d) (He.ga K "_law_short") [] (sp__law_short K d)
  | 0 => fc_no fun vs H Q E h => by
    obtain ⟨p, l, at_, room, deep, k, _, _, _, _, _, _, _, h, _⟩ := h
    omega
  | d + 1 => ok__law_short T (Nat.le_add_right 60 _) (all__law_short T d)
end
section
def sp__law_spread (K : PySem.W.Frag) : Sp := fun vs H Q _ => ∃ (p : Addr) (mo : Nat), vs = [.ref p, .int (mo : Nat)] ∧ Pot H p ∧ 1 ≤ mo ∧ ∀ (r : Addr) (as : List Addr) (ts : List Tr) H', H' r = some (.tup (as.map V.ref)) → DtsAt H' ts as → okL_ ts → nestL ts ≤ 8 → risB ts = true → (momsL ts).length ≤ 1440 → (∀ n ∈ momsL ts, n < 10 ^ 30) → pcsL ts ≤ mo → PotOn H H' p → Q (.ref r) H'
theorem pick4 {a b c e : Nat} {d : Int} (d0 : 0 ≤ d) (d1 : d < 4) : ∃ n : Nat, atI [V.int (a : Nat), .int (b : Nat), .int (c : Nat), .int (e : Nat)] d = some (.int (n : Nat)) ∧ (n = a ∨ n = b ∨ n = c ∨ n = e) := by
  obtain ⟨x, hx, ex⟩ := at_mem (xs := [V.int (a : Nat), .int (b : Nat), .int (c : Nat), .int (e : Nat)]) d0 (by show d < 4; exact d1)
  simp only [List.mem_cons, List.not_mem_nil, or_false] at hx
  rcases hx with rfl | rfl | rfl | rfl
  · exact ⟨a, ex, .inl rfl⟩
  · exact ⟨b, ex, .inr (.inl rfl)⟩
  · exact ⟨c, ex, .inr (.inr (.inl rfl))⟩
  · exact ⟨e, ex, .inr (.inr (.inr rfl))⟩
theorem fb__law_spread {P : Program} {w : World} {K : PySem.W.Frag} {mg : Str → Option Value} {base : Heap} (T : Env K mg) : ∃ fd, FunD K "_law_spread" "_law_spread" (defArgs s__law_spread) (defBody s__law_spread) (defScope s__law_spread) [] [] (He.ga K "_law_spread") fd ∧ Fb P w K mg base 82 (He.ga K "_law_spread") fd ["_law_pot_here", "_law_most"] (sp__law_spread K) := by
  obtain ⟨fd, F⟩ := T.f__law_spread
  refine ⟨fd, F, fb_of F sc__law_spread (fun vs H Q E h => ?_) (fun cdv A outer s H vs Q E hr h => ?_)⟩
  · obtain ⟨p, mo, rfl, _⟩ := h
    rfl
  · obtain ⟨p, mo, rfl, hp, mo1, q⟩ := h
    refine ⟨_, (pss_cons (ps_if (pt_cmpR op_eq (c_call (ok__law_draw T) (hr.mono (by decide)) T.g__law_draw T.k__law_draw takes0 (pa_cons (pv 0) (pa_cons pe_int pa_nil))) pe_int (nomark _))
      (pss_one (ps_ret (pe_tup pa_nil)))
      pss_nil)
      (pss_cons (ps_set (i := 2) sc__law_spread.nd rfl (Or.inl rfl) (pe_ix ix_list (pe_lst (pa_cons pe_int (pa_cons pe_int (pa_cons pe_int (pa_cons pe_int pa_nil))))) (c_call (ok__law_draw T) (hr.mono (by decide)) T.g__law_draw T.k__law_draw takes0 (pa_cons (pv 0) (pa_cons pe_int pa_nil))) (fun _ _ => rfl)))
      (Evl.pss_cut (ps_if (pt_cmpR op_eq (c_call (ok__law_draw T) (hr.mono (by decide)) T.g__law_draw T.k__law_draw takes0 (pa_cons (pv 0) (pa_cons pe_int pa_nil))) pe_int (nomark _))
      (pss_one (ps_set (i := 2) sc__law_spread.nd rfl (Or.inl rfl) pe_int))
      pss_nil)
      (pss_cons (ps_set (i := 3) sc__law_spread.nd rfl (Or.inl rfl) (pe_ix ix_list (pe_lst (pa_cons pe_int (pa_cons pe_int (pa_cons pe_int (pa_cons pe_int pa_nil))))) (c_call (ok__law_draw T) (hr.mono (by decide)) T.g__law_draw T.k__law_draw takes0 (pa_cons (pv 0) (pa_cons pe_int pa_nil))) (fun _ _ => rfl)))
      (pss_one (ps_ret (c_call (ok__law_row T (Nat.le_add_right 60 _) (all__law_short T 9)) (hr.mono (by decide)) T.g__law_row T.k__law_row takes0 (pa_cons (pv 0) (pa_cons (c_call (ok__law_gap T) (hr.mono (by decide)) T.g__law_gap T.k__law_gap takes0 (pa_cons (pv 0) pa_nil)) (pa_cons (pv 2) (pa_cons (pv 3) (pa_cons (pe_lst (pa_cons (pv 1) pa_nil)) pa_nil)))))))))))), ?_⟩
    refine ⟨_, rfl, p, 12, rfl, hp, by decide, by decide, fun d H1 d0 d1 P1 => ⟨rfl, _, rfl, ite2 (fun _ => ?_) (fun _ => ?_)⟩⟩
    · refine ⟨by show 0 ≤ sizeLine; decide, fun r nr => ?_⟩
      refine q r [] [] _ upd_same (by unfold DtsAt; rfl) (by unfold okL_; trivial) (by unfold nestL; exact Nat.zero_le _) rfl (by unfold momsL; exact Nat.zero_le _) (fun n hn => by unfold momsL at hn; cases hn) (by unfold pcsL; exact Nat.zero_le _) (P1.ex2 (ex_new nr))
    refine ⟨by show 4 ≤ sizeLine; decide, fun u nu => ?_⟩
    have up := pot_ne P1 nu
    have P2 := pot_new (o := .lst [.int 6, .int 12, .int 24, .int 60]) P1 nu
    refine ⟨_, rfl, p, 4, rfl, P2.1, by decide, by decide, fun d H3 d0 d1 P3 => ?_⟩
    obtain ⟨rm, erm, hrm⟩ := pick4 (a := 6) (b := 12) (c := 24) (e := 60) d0 d1
    refine ⟨u, _, _, _, rfl, rfl, sq_lst (P3.2 _ _ up upd_same), erm, ?_⟩
    have P23 := P2.trans P3
    refine ⟨fun σ' H' => PotOn H H' p ∧ ∃ rm : Nat, 1 ≤ rm ∧ rm ≤ 1440 ∧ σ' = [some (.ref p), some (.int (mo : Nat)), some (.int (rm : Nat)), none], ?_, ?_⟩
    · refine ⟨_, rfl, p, 16, rfl, P23.1, by decide, by decide, fun d H4 d0 d1 P4 => ⟨rfl, _, rfl, ite2 (fun _ => ?_) (fun _ => ?_)⟩⟩
      · exact ⟨P23.trans P4, 1440, by decide, by decide, rfl⟩
      · exact ⟨P23.trans P4, rm, by omega, by omega, rfl⟩
    clear hrm erm
    clear rm
    rintro σ' H4 ⟨P4, rm, rm1, rm2, rfl⟩
    refine ⟨by show 4 ≤ sizeLine; decide, fun u2 nu2 => ?_⟩
    have up2 := pot_ne P4 nu2
    have P5 := pot_new (o := .lst [.int 1, .int 2, .int 3, .int 8]) P4 nu2
    refine ⟨_, rfl, p, 4, rfl, P5.1, by decide, by decide, fun d H6 d0 d1 P6 => ?_⟩
    obtain ⟨dp, edp, hdp⟩ := pick4 (a := 1) (b := 2) (c := 3) (e := 8) d0 d1
    refine ⟨u2, _, _, _, rfl, rfl, sq_lst (P6.2 _ _ up2 upd_same), edp, ?_⟩
    have P56 := P5.trans P6
    refine ⟨_, rfl, _, rfl, p, rfl, P56.1, fun g H7 hg P7 => ?_⟩
    have P7' := P56.trans P7
    refine ⟨_, rfl, _, rfl, _, rfl, by show 1 ≤ sizeLine; decide, fun l nl => ?_⟩
    have lp := pot_ne P7' nl
    have P8 := pot_new (o := .lst [.int (mo : Nat)]) P7' nl
    have lH := P7'.fresh nl
    refine ⟨p, l, g, rm, dp, (mo : Nat), rfl, P8.1, upd_same, lp, rm1, rm2, by omega, by omega, by omega, fun r as ts k2 H9 kz kp hr9 hD9 ts0 hok hne hri hhd hlen hlast hl9 P9 => ?_⟩
    refine q r as ts H9 hr9 hD9 hok (Nat.le_trans (nestL_le hne) (by omega)) hri (by omega) (fun n hn => ?_) (by omega) ⟨P9.1, fun b o nb e => P9.2 _ _ nb (ne_of_none e lH) (P8.2 _ _ nb e)⟩
    have h1 := le_lastD (ris_sorted hok hri) n hn
    have h2 : (momsL ts).length * ((2 * dp + 2) * GAP) ≤ 1440 * (18 * GAP) := Nat.mul_le_mul (by omega) (Nat.mul_le_mul_right _ (by omega))
    have h3 : (10 : Nat) ^ 20 + 1440 * (18 * GAP) < 10 ^ 30 := by decide +kernel
    omega
theorem ok__law_spread {P : Program} {w : World} {K : PySem.W.Frag} {mg : Str → Option Value} {base : Heap} (T : Env K mg) : Fc P w K mg base 82 (He.ga K "_law_spread") [] (sp__law_spread K ) := by
  obtain ⟨fd, D, F⟩ := fb__law_spread T
  exact F.all (D.bindsN fun _ _ _ _ _ _ us hl => match us, hl with | [_, _], _ => rfl)
end
section
def sp__law_time (K : PySem.W.Frag) : Sp := fun vs H Q _ => ∃ n : Nat, vs = [.int n] ∧ n < 10 ^ 255 ∧ ∀ H', Ex H H' → Q (.str (SX.S (Mo.shw n))) H'
theorem fb__law_time {P : Program} {w : World} {K : PySem.W.Frag} {mg : Str → Option Value} {base : Heap} (T : Env K mg) : ∃ fd, FunD K "_law_time" "_law_time" (defArgs s__law_time) (defBody s__law_time) (defScope s__law_time) [] [] (He.ga K "_law_time") fd ∧ Fb P w K mg base 1 (He.ga K "_law_time") fd ["_law_moment"] (sp__law_time K) := by
  obtain ⟨fd, F⟩ := T.f__law_time
  refine ⟨fd, F, fb_of F sc__law_time (fun vs H Q E h => ?_) (fun cdv A outer s H vs Q E hr h => ?_)⟩
  · obtain ⟨n, rfl, _⟩ := h
    rfl
  · obtain ⟨m, rfl, mb, q⟩ := h
    refine ⟨_, (pss_cons (ps_asg (pe_callB call_divmodW (by rfl) T.n_divmod (by decide +kernel) (pa_cons (pv 0) (pa_cons pe_int pa_nil))) (pg_tup (by rfl) (pgs_cons (pg_name (i := 1) sc__law_time.nd rfl (Or.inl rfl)) (pgs_cons (pg_name (i := 2) sc__law_time.nd rfl (Or.inl rfl)) pgs_nil))))
      (pss_cons (ps_asg (pe_callB call_divmodW (by rfl) T.n_divmod (by decide +kernel) (pa_cons (pv 2) (pa_cons pe_int pa_nil))) (pg_tup (by rfl) (pgs_cons (pg_name (i := 3) sc__law_time.nd rfl (Or.inl rfl)) (pgs_cons (pg_name (i := 4) sc__law_time.nd rfl (Or.inl rfl)) pgs_nil))))
      (pss_cons (ps_set (i := 5) sc__law_time.nd rfl (Or.inl rfl) (pe_op op_add_str (pe_op op_add_str (pe_callTy call_str_int (by rfl) T.n_str (by decide +kernel) (pa_cons (pv 3) pa_nil)) pe_str) (pe_bm PySem.F.plainAttrs_str PySem.F.slot_str_zfill PySem.F.type_str_zfill mt_zfill (pe_callTy call_str_int (by rfl) T.n_str (by decide +kernel) (pa_cons (pv 4) pa_nil)) (pa_cons pe_int pa_nil))))
      (pss_cons (ps_if (pt_cmpR op_gt (pv 1) pe_int (nomark _))
      (pss_one (ps_set (i := 5) sc__law_time.nd rfl (Or.inl rfl) (pe_op op_add_str (pe_op op_add_str (pe_callTy call_str_int (by rfl) T.n_str (by decide +kernel) (pa_cons (pv 1) pa_nil)) pe_str) (pv 5))))
      pss_nil)
      (pss_one (ps_ret (pv 5))))))), ?_⟩
    have l1 : (Mo.shw m).length ≤ 263 := Mo.shw_len (by decide) mb
    have l2 : (TL.numL (m % 1440 / 60)).length ≤ 2 := TL.numL_len (by decide) (by omega)
    have l3 : (TL.numL (m / 1440)).length ≤ 255 := TL.numL_len (by decide) (Nat.lt_of_le_of_lt (Nat.div_le_self _ _) mb)
    refine ⟨_, rfl, _, _, rfl, ⟨(by decide), rfl⟩, ?_⟩
    intro t nt
    have X1 := ex_new (o := .tup [.int (((m : Nat) : Int) / 1440), .int (((m : Nat) : Int) % 1440)]) nt
    have h1 : upd H t (.tup [.int (((m : Nat) : Int) / 1440), .int (((m : Nat) : Int) % 1440)]) t = some (.tup [.int (((m : Nat) : Int) / 1440), .int (((m : Nat) : Int) % 1440)]) := upd_same
    have e1 : ((m : Nat) : Int) / 1440 = ((m / 1440 : Nat) : Int) := by omega
    have e2 : ((m : Nat) : Int) % 1440 = ((m % 1440 : Nat) : Int) := by omega
    rw [e1, e2] at X1 h1 ⊢
    generalize upd H t (.tup [.int ((m / 1440 : Nat) : Int), .int ((m % 1440 : Nat) : Int)]) = H1 at X1 h1 ⊢
    refine ⟨_, _, rfl, (sq_tup h1), rfl, _, _, rfl, _, _, rfl, rfl, _, rfl, _, _, rfl, ⟨(by decide), rfl⟩, ?_⟩
    intro u nu
    have X2 := X1.trans (ex_new (o := .tup [.int (((m % 1440 : Nat) : Int) / 60), .int (((m % 1440 : Nat) : Int) % 60)]) nu)
    have h2 : upd H1 u (.tup [.int (((m % 1440 : Nat) : Int) / 60), .int (((m % 1440 : Nat) : Int) % 60)]) u = some (.tup [.int (((m % 1440 : Nat) : Int) / 60), .int (((m % 1440 : Nat) : Int) % 60)]) := upd_same
    have e3 : ((m % 1440 : Nat) : Int) / 60 = ((m % 1440 / 60 : Nat) : Int) := by omega
    have e4 : ((m % 1440 : Nat) : Int) % 60 = ((m % 60 : Nat) : Int) := by omega
    rw [e3, e4] at X2 h2 ⊢
    generalize upd H1 u (.tup [.int ((m % 1440 / 60 : Nat) : Int), .int ((m % 60 : Nat) : Int)]) = H2 at X2 h2 ⊢
    have b1 := log_small (n := m % 1440 / 60) (Nat.lt_of_le_of_lt (show m % 1440 / 60 ≤ 100 by omega) (by decide +kernel))
    have b2 := log_small (n := m % 60) (Nat.lt_of_le_of_lt (show m % 60 ≤ 100 by omega) (by decide +kernel))
    refine ⟨_, _, rfl, (sq_tup h2), rfl, _, _, rfl, _, _, rfl, rfl, _, rfl, _, rfl, b1, _, _, rfl, rfl, ?_⟩
    try dsimp only [tNil]
    rw [SX.num_S, show Str.ofString ":" = SX.S [58] from rfl, SX.S_cat]
    have l4 : (Mo.clk m).length ≤ 5 := by
      unfold Mo.clk Mo.two
      simp
      omega
    refine ⟨sz_big (by rw [SX.S_len, SX.S_len]; simp; omega), _, rfl, _, rfl, b2, rfl, _, _, rfl, rfl, rfl, _, _, rfl, rfl, ?_⟩
    rw [show Txt.zfill (Str.ofString (toString ((m % 60 : Nat) : Int))) 2 = SX.S (Mo.two (m % 60)) from str_two _ (by omega), SX.S_cat]
    have ec : TL.numL (m % 1440 / 60) ++ [58] ++ Mo.two (m % 60) = Mo.clk m := by
      unfold Mo.clk
      simp
    rw [ec]
    refine ⟨sz_big (by rw [SX.S_len, SX.S_len]; simp; unfold Mo.two; simp; omega), ?_⟩
    refine ⟨_, rfl, _, _, rfl, rfl, _, rfl, ?_⟩
    try dsimp only [tNil]
    by_cases c : m / 1440 = 0
    · refine ifN (by omega) ?_
      have e5 : Mo.shw m = Mo.clk m := by unfold Mo.shw; rw [if_pos c]
      rw [e5] at q
      exact ⟨_, rfl, q _ X2⟩
    · refine ifP (by omega) ?_
      have b3 := log_small (n := m / 1440) (Nat.lt_of_le_of_lt (Nat.div_le_self _ _) mb)
      refine ⟨_, rfl, _, rfl, b3, ?_⟩
      rw [SX.num_S, show Str.ofString " " = SX.S [32] from rfl]
      refine ⟨_, _, rfl, rfl, sz_big (by rw [SX.S_len, SX.S_len]; simp; omega), _, rfl, _, _, rfl, rfl, ?_⟩
      rw [SX.S_cat, SX.S_cat]
      refine ⟨sz_big (by rw [SX.S_len, SX.S_len]; simp; omega), ?_⟩
      have e5 : Mo.shw m = TL.numL (m / 1440) ++ [32] ++ Mo.clk m := by unfold Mo.shw; rw [if_neg c]; simp
      rw [e5] at q
      exact ⟨_, rfl, q _ X2⟩
theorem ok__law_time {P : Program} {w : World} {K : PySem.W.Frag} {mg : Str → Option Value} {base : Heap} (T : Env K mg) : Fc P w K mg base 1 (He.ga K "_law_time") [] (sp__law_time K ) := by
  obtain ⟨fd, D, F⟩ := fb__law_time T
  exact F.all (D.bindsN fun _ _ _ _ _ _ us hl => match us, hl with | [_], _ => rfl)
end
section
def sp__law_word (K : PySem.W.Frag) (d : Nat) : Sp := fun vs H Q _ => ∃ (b : Addr) (t : Tr), vs = [.ref b] ∧ DtAt H t b ∧ t.nest + 1 ≤ d ∧ t.fit ∧ t.pcs ≤ 10000 ∧ ∀ H', Ex H H' → Q (.str (SX.S t.txt)) H'
def sp__law_text (K : PySem.W.Frag) (d : Nat) : Sp := fun vs H Q _ => ∃ (p : Addr) (bs : List Addr) (ts : List Tr), vs = [.ref p] ∧ H p = some (.tup (bs.map V.ref)) ∧ DtsAt H ts bs ∧ (∀ t ∈ ts, t.nest + 1 ≤ d) ∧ fitL ts ∧ pcsL ts ≤ 10000 ∧ ∀ H', Ex H H' → Q (.str (SX.S (rowT (txtL ts)))) H'
theorem fb__law_text {P : Program} {w : World} {K : PySem.W.Frag} {mg : Str → Option Value} {base : Heap} (T : Env K mg) {d L : Nat} (hL : 40 ≤ L) (r__law_word : Fc P w K mg base L (He.ga K "_law_word") [] (sp__law_word K d)) : ∃ fd, FunD K "_law_text" "_law_text" (defArgs s__law_text) (defBody s__law_text) (defScope s__law_text) [] [] (He.ga K "_law_text") fd ∧ Fb P w K mg base (L + 1) (He.ga K "_law_text") fd ["_law_row_here"] (sp__law_text K (d)) := by
  obtain ⟨fd, F⟩ := T.f__law_text
  refine ⟨fd, F, fb_of F sc__law_text (fun vs H Q E h => ?_) (fun cdv A outer s H vs Q E hr h => ?_)⟩
  · obtain ⟨p, as, ts, rfl, _⟩ := h
    rfl
  · obtain ⟨p, bs, ts, rfl, hp, hB, hn, hf, hc, q⟩ := h
    refine ⟨_, (pss_cons (ps_if (pt_cmpR op_eq (pe_callB call_len (by rfl) T.n_len (by decide +kernel) (pa_cons (pv 0) pa_nil)) pe_int (nomark _))
      (pss_one (ps_ret pe_str))
      pss_nil)
      (pss_one (ps_ret (pe_join pe_str (pe_lc (own := [("_law_short_here", 1)]) (by rfl) sc__law_text.nd (pi_tup (pv 0)) (blkOk_by (own := [("_law_short_here", 1)]) (N := ["_law_row_here", "_law_short_here"]) (sc := defScope s__law_text) (by decide +kernel)) (fun _ _ _ _ _ => (pg_name (i := 1) sc__law_text.nd rfl (Or.inl rfl))) (fun _ _ _ _ _ => pts_nil) (fun _ _ _ _ _ => (c_call r__law_word (hr.mono (by omega)) T.g__law_word T.k__law_word takes0 (pa_cons (pv 1) pa_nil)))))))), ?_⟩
    have hl1 := hB.len
    have hl2 := len_pcsL ts
    refine ⟨_, rfl, _, _, rfl, (.inr ⟨_, ⟨(sq_tup hp), rfl⟩⟩), rfl, _, rfl, ?_⟩
    try dsimp only [tNil]
    by_cases h0 : ts = []
    · refine ifP (by rw [List.length_map, hl1, h0]; rfl) ?_
      rw [h0] at q
      exact q H (.refl _)
    · refine ifN (by rw [List.length_map, hl1]; exact vint_ne (by have := List.length_pos_iff.mpr h0; omega)) ?_
      refine ⟨⟨_, rfl⟩, _, rfl, _, rfl, ⟨_, (sq_tup hp)⟩, fun A nA => lc_fm L2.walk_tup (fun i => (ts[i]?).map fun t => .str (SX.S t.txt)) (fun H' => Ex H H') (fun H' z e => ex_mut e nA) (.refl _) (by rw [List.length_map]; omega) (fun H' e => sq_tup (e _ _ hp)) (fun i x H2 H3 acc N hi e hD la y k => ?_) fun H3 X3 d3 => ?_⟩
      · obtain ⟨rfl, y⟩ := y
        rw [List.getElem?_map] at y
        obtain ⟨b, hb, rfl⟩ := Option.map_eq_some_iff.mp y
        obtain ⟨t, ht, hS⟩ := hB.get hb
        have htm := List.mem_of_getElem? ht
        have k2 := fun H4 (X4 : Ex H3 H4) => k H4 (e.trans X4) (X4 _ _ hD)
        rw [ht] at k2
        have ft := fitL_mem hf htm
        have pt := pcsL_mem htm
        exact ⟨rfl, _, rfl, b, t, rfl, hS.mono e, hn t htm, ft, by omega, fun H4 X4 => ⟨acc, X4 _ _ hD, la, k2 H4 X4⟩⟩
      · rw [List.length_map, hl1, range_opt ts (fun t => V.str (SX.S t.txt))] at d3
        have e1 : ts.map (fun t => V.str (SX.S t.txt)) = ((txtL ts).map SX.S).map V.str := by
          rw [txtL_map, List.map_map, List.map_map]
          rfl
        rw [e1] at d3
        have sl := sum_txt (hf)
        refine ⟨_, A, _, rfl, rfl, .inl (sq_lst d3), ?_, ?_⟩
        · rw [SX.lens, List.length_map, txtL_map, List.length_map]
          rw [txtL_map] at sl
          have z : (Str.ofString ", ").length = 2 := rfl
          rw [z]
          omega
        · rw [show Str.ofString ", " = SX.S [44, 32] from rfl, SX.join_S]
          have e2 : rowT (txtL ts) = TL.joinL [44, 32] (txtL ts) := if_neg (by rw [txtL_map]; intro z; exact h0 (List.map_eq_nil_iff.mp z))
          rw [e2] at q
          exact q H3 X3
theorem ok__law_text {P : Program} {w : World} {K : PySem.W.Frag} {mg : Str → Option Value} {base : Heap} (T : Env K mg) {d L : Nat} (hL : 40 ≤ L) (r__law_word : Fc P w K mg base L (He.ga K "_law_word") [] (sp__law_word K d)) : Fc P w K mg base (L + 1) (He.ga K "_law_text") [] (sp__law_text K (d)) := by
  obtain ⟨fd, D, F⟩ := fb__law_text T hL r__law_word
  exact F.all (D.bindsN fun _ _ _ _ _ _ us hl => match us, hl with | [_], _ => rfl)
end
section
theorem fb__law_word {P : Program} {w : World} {K : PySem.W.Frag} {mg : Str → Option Value} {base : Heap} (T : Env K mg) {d L : Nat} (hL : 40 ≤ L) (r__law_word : Fc P w K mg base L (He.ga K "_law_word") [] (sp__law_word K d)) : ∃ fd, FunD K "_law_word" "_law_word" (defArgs s__law_word) (defBody s__law_word) (defScope s__law_word) [] [] (He.ga K "_law_word") fd ∧ Fb P w K mg base (L + 2) (He.ga K "_law_word") fd ["_law_short_here"] (sp__law_word K (d + 1)) := by
  obtain ⟨fd, F⟩ := T.f__law_word
  refine ⟨fd, F, fb_of F sc__law_word (fun vs H Q E h => ?_) (fun cdv A outer s H vs Q E hr h => ?_)⟩
  · obtain ⟨b, t, rfl, _⟩ := h
    rfl
  · obtain ⟨b, t, rfl, hD, hn, hf, hc, q⟩ := h
    refine ⟨_, (pss_cons (ps_if (pt_cmpR op_eq (pe_ix ix_tup (pv 0) pe_int (fun _ _ => rfl)) pe_str (nomark _))
      (pss_one (ps_ret (c_call (ok__law_time T) (hr.mono (by omega)) T.g__law_time T.k__law_time takes0 (pa_cons (pe_ix ix_tup (pv 0) pe_int (fun _ _ => rfl)) pa_nil))))
      pss_nil)
      (pss_one (ps_ret (pe_op op_add_str (pe_op op_add_str (pe_op op_add_str (pe_op op_add_str (pe_op op_add_str pe_str (c_call (ok__law_text T hL r__law_word) (hr.mono (by omega)) T.g__law_text T.k__law_text takes0 (pa_cons (pe_ix ix_tup (pv 0) pe_int (fun _ _ => rfl)) pa_nil))) pe_str) (pe_callTy call_str_int (by rfl) T.n_str (by decide +kernel) (pa_cons (pe_ix ix_tup (pv 0) pe_int (fun _ _ => rfl)) pa_nil))) pe_str) (pe_callTy call_str_int (by rfl) T.n_str (by decide +kernel) (pa_cons (pe_ix ix_tup (pv 0) pe_int (fun _ _ => rfl)) pa_nil)))))), ?_⟩
    cases t with
    | «at» n =>
      unfold DtAt at hD
      unfold Tr.fit at hf
      unfold Tr.txt at q
      refine ⟨_, rfl, _, _, _, _, rfl, rfl, (sq_tup hD), rfl, rfl, _, rfl, ?_⟩
      refine iteT ?_
      refine ⟨_, rfl, _, _, _, _, rfl, rfl, (sq_tup hD), rfl, _, rfl, hf, ?_⟩
      exact fun H1 X1 => q H1 X1
    | ov ps m s_ =>
      have htl := txt_len hf
      unfold DtAt at hD
      obtain ⟨r, bs, hD, hr2, hB⟩ := hD
      unfold Tr.nest at hn
      unfold Tr.pcs at hc htl
      unfold Tr.fit at hf
      unfold Tr.txt at q htl
      obtain ⟨f1, f2, f3⟩ := hf
      have b1 := log_small f1
      have b2 := log_small f2
      have rl := rowT_len f3
      have hpl : pcsL ps ≤ 10000 := by omega
      have hnn : ∀ t ∈ ps, t.nest + 1 ≤ d := fun t ht => by
        have := nestL_mem ht
        omega
      have l1 := TL.numL_len (by decide) f1
      have l2 := TL.numL_len (by decide) f2
      refine ⟨_, rfl, _, _, _, _, rfl, rfl, (sq_tup hD), rfl, rfl, _, rfl, ?_⟩
      refine iteF ?_
      refine ⟨_, rfl, _, _, _, _, rfl, rfl, (sq_tup hD), rfl, _, _, _, rfl, hr2, hB, hnn, f3, hpl, ?_⟩
      intro H1 X1
      have hD1 := X1 _ _ hD
      rw [show Str.ofString "(" = SX.S [40] from rfl]
      refine ⟨_, _, rfl, rfl, sz_big (by rw [SX.S_len, SX.S_len]; simp; omega), ?_⟩
      rw [SX.S_cat]
      refine ⟨_, _, rfl, rfl, ?_⟩
      rw [show Str.ofString ") x" = SX.S [41, 32, 120] from rfl]
      refine ⟨sz_big (by rw [SX.S_len, SX.S_len]; simp; omega), ?_⟩
      rw [SX.S_cat]
      refine ⟨_, rfl, _, _, _, _, rfl, rfl, sq_tup hD1, rfl, _, rfl, b1, _, _, rfl, rfl, ?_⟩
      rw [SX.num_S]
      refine ⟨sz_big (by rw [SX.S_len, SX.S_len]; simp; omega), ?_⟩
      rw [SX.S_cat]
      refine ⟨_, _, rfl, rfl, ?_⟩
      rw [show Str.ofString " +" = SX.S [32, 43] from rfl]
      refine ⟨sz_big (by rw [SX.S_len, SX.S_len]; simp; omega), ?_⟩
      rw [SX.S_cat]
      refine ⟨_, rfl, _, _, _, _, rfl, rfl, sq_tup hD1, rfl, _, rfl, b2, _, _, rfl, rfl, ?_⟩
      rw [SX.num_S]
      refine ⟨sz_big (by rw [SX.S_len, SX.S_len]; simp; omega), ?_⟩
      rw [SX.S_cat]
      exact q H1 X1
theorem ok__law_word {P : Program} {w : World} {K : PySem.W.Frag} {mg : Str → Option Value} {base : Heap} (T : Env K mg) {d L : Nat} (hL : 40 ≤ L) (r__law_word : Fc P w K mg base L (He.ga K "_law_word") [] (sp__law_word K d)) : Fc P w K mg base (L + 2) (He.ga K "_law_word") [] (sp__law_word K (d + 1)) := by
  obtain ⟨fd, D, F⟩ := fb__law_word T hL r__law_word
  exact F.all (D.bindsN fun _ _ _ _ _ _ us hl => match us, hl with | [_], _ => rfl)
theorem all__law_word {P : Program} {w : World} {K : PySem.W.Frag} {mg : Str → Option Value} {base : Heap} (T : Env K mg) : ∀ d, Fc P w K mg base (40 + 2 * d) (He.ga K "_law_word") [] (sp__law_word K d)
  | 0 => fc_no fun vs H Q E h => by
    obtain ⟨b, t, _, _, h, _⟩ := h
    omega
  | d + 1 => (ok__law_word T (Nat.le_add_right 40 _) (all__law_word T d)).mono (by omega)
end
section
theorem readS_inv {l : List Nat} {ts : List Tr} (h : readS l = some ts) : rowT (txtL ts) = l ∧ sprB ts = true := by
  unfold readS at h
  split at h
  · rename_i e
    cases h
    rw [e]
    exact ⟨rfl, rfl⟩
  · split at h
    · split at h
      · rename_i c
        cases h
        exact ⟨c.2, c.1⟩
      · cases h
    · cases h
/-- how long what stands between separators is -/
def Itm (l : List Nat) : Prop := ∀ i, (itm (l.drop i)).length ≤ 250
theorem rdA_good : ∀ (n : Nat) {l : List Nat} {st st' : List (List Tr)}, l.length ≤ n → Itm l → rdA l st = some st' → fitS st → st.length ≤ 9 → st ≠ [] → fitS st' ∧ pcsS st' ≤ pcsS st + l.length
  | n, [], st, st', _, _, h, hf, _, _ => by
    rw [rdA_nil] at h
    cases h
    exact ⟨hf, Nat.le_refl _⟩
  | 0, c :: r, _, _, h, _, _, _, _, _ => by simp at h
  | n + 1, c :: r, st, st', hn, hi, h, hf, hl, ne => by
    rw [rdA_cons] at h
    cases e : stp c r st with
    | none =>
      rw [e] at h
      cases h
    | some z =>
      obtain ⟨k, s1⟩ := z
      rw [e] at h
      dsimp only at h
      have i0 := hi 1
      rw [List.drop_succ_cons, List.drop_zero] at i0
      obtain ⟨g1, g2, g3, g4, g5, g6⟩ := stp_good e hf hl i0 ne
      rw [List.length_cons] at hn
      have z := rdA_good n (l := (c :: r).drop k) (by rw [List.length_drop, List.length_cons]; omega) (fun i => by rw [List.drop_drop]; exact hi _) h g1 g2 g3
      refine ⟨z.1, ?_⟩
      have z2 := z.2
      rw [List.length_drop, List.length_cons] at z2
      rw [List.length_cons]
      omega
theorem readS_good {l : List Nat} {ts : List Tr} (h : readS l = some ts) (hi : Itm l) : okL_ ts ∧ nestL ts ≤ 8 ∧ fitL ts ∧ pcsL ts ≤ l.length := by
  unfold readS at h
  split at h
  · cases h
    exact ⟨by unfold okL_; trivial, by simp [nestL], by unfold fitL; trivial, by unfold pcsL; exact Nat.zero_le _⟩
  · split at h
    · rename_i us e
      split at h
      · cases h
        obtain ⟨a, b⟩ := rdA_good l.length (Nat.le_refl _) hi e (fun row hr => by rw [List.mem_singleton.mp hr]; exact ⟨by unfold okL_; trivial, by simp [nestL], by unfold fitL; trivial⟩) (by decide) nofun
        obtain ⟨a1, a2, a3⟩ := a _ List.mem_cons_self
        refine ⟨a1, a2, a3, ?_⟩
        have e1 : pcsS [ts] = pcsL ts := by simp [pcsS]
        have e2 : pcsS ([[]] : List (List Tr)) = 0 := by simp [pcsS, pcsL]
        omega
      · cases h
    · cases h
theorem itm_pre (l m : List Nat) : (itm l).length ≤ (itm (l ++ m)).length := by
  unfold itm
  induction l with
  | nil => exact Nat.zero_le _
  | cons c r ih =>
    rw [List.cons_append, List.takeWhile_cons, List.takeWhile_cons]
    split
    · rw [List.length_cons, List.length_cons]
      omega
    · exact Nat.zero_le _
end
section
/-- what comes of it: told, or refused -/
def toldV : Bool → List V
  | true => [.str "told"]
  | false => [.bl true, .bl true, .bl false]
/-- what is read, and whether it is -/
def RdX (K : PySem.W.Frag) (H : Hp) (x : V) (b : Bool) : Prop := (∃ l : List Nat, x = .str (SX.S l) ∧ l.length ≤ 10000 ∧ (∀ i, (itm (l.drop i)).length ≤ 250) ∧ b = (readS l).isSome) ∨ (∃ t, TyX K H x t ∧ PySem.W.kitOne K t (.type "str") = some false ∧ b = false)
def sp__law_word_of (K : PySem.W.Frag) : Sp := fun vs H Q _ => ∃ (a : Addr) (x : V) (b : Bool), vs = [.int 3, .ref a] ∧ H a = some (.lst [x]) ∧ RdX K H x b ∧ ∀ p H', Ex H H' → H' p = some (.lst (toldV b)) → Q (.ref p) H'
theorem fb__law_word_of {P : Program} {w : World} {K : PySem.W.Frag} {mg : Str → Option Value} {base : Heap} (T : Env K mg) : ∃ fd, FunD K "_law_word_of" "_law_word_of" (defArgs s__law_word_of) (defBody s__law_word_of) (defScope s__law_word_of) [] [] (He.ga K "_law_word_of") fd ∧ Fb P w K mg base 110 (He.ga K "_law_word_of") fd ["_law_kind", "_law_things"] (sp__law_word_of K) := by
  obtain ⟨fd, F⟩ := T.f__law_word_of
  refine ⟨fd, F, fb_of F sc__law_word_of (fun vs H Q E h => ?_) (fun cdv A outer s H vs Q E hr h => ?_)⟩
  · obtain ⟨a, x, b, rfl, _⟩ := h
    rfl
  · obtain ⟨a, x, b, rfl, ha, hw, q⟩ := h
    refine ⟨_, (pss_cons (ps_set (i := 2) sc__law_word_of.nd rfl (Or.inl rfl) (pe_lst (pa_cons pe_str pa_nil)))
      (Evl.pss_cut (ps_try_fst (i := 3) rfl rfl sc__law_word_of.nd rfl rfl ⟨by rfl, by decide, .inl T.g_GoingError⟩ (fun W pn xe tk po => (pss_one (ps_if (pt_cmpR op_eq (pv 0) pe_int (nomark _))
      (pss_one (ps_expr (c_make T.mk_At (ok_At_init T) (hr.mono (by decide)) T.g_At tk (pa_cons (pe_ix (ix_listK K) (pv 1) pe_int (fun _ _ => rfl)) pa_nil))))
      (pss_one (ps_if (pt_cmpR op_eq (pv 0) pe_int (nomark _))
      (pss_one (ps_expr (c_make T.mk_Over (ok_Over_init T) (hr.mono (by decide)) T.g_Over tk (pa_cons (pe_ix (ix_listK K) (pv 1) pe_int (fun _ _ => rfl)) (pa_cons (pe_ix (ix_listK K) (pv 1) pe_int (fun _ _ => rfl)) (pa_cons (pe_ix (ix_listK K) (pv 1) pe_int (fun _ _ => rfl)) pa_nil))))))
      (pss_one (ps_if (pt_cmpR op_eq (pv 0) pe_int (nomark _))
      (pss_one (ps_expr (c_make T.mk_Spread (ok_Spread_init T) (hr.mono (by decide)) T.g_Spread tk (pa_cons (pe_ix (ix_listK K) (pv 1) pe_int (fun _ _ => rfl)) pa_nil))))
      (pss_one (ps_expr (c_call (ok_read_spread T) (hr.mono (by decide)) T.g_read_spread T.k_read_spread tk (pa_cons (pe_ix (ix_listK K) (pv 1) pe_int (fun _ _ => rfl)) pa_nil))))))))))) (fun a oe cls d pn hz hf => (pss_cons (ps_set (i := 2) sc__law_word_of.nd rfl (Or.inl rfl) (pe_lst (pa_cons (pe_callB (by exact call_isA hz hf) (by rfl) T.n_isinstance (by decide +kernel) (pa_cons (pv 3) (pa_cons (pe_glob (v := .ref _) (by rfl) T.g_NoPiece rfl) pa_nil))) (pa_cons (pe_callB (by exact call_isA hz hf) (by rfl) T.n_isinstance (by decide +kernel) (pa_cons (pv 3) (pa_cons (pe_bltn (v := .ty "ValueError") (by rfl) T.n_ValueError (by decide +kernel) rfl) pa_nil))) pa_nil))))
      (pss_one (ps_expr (pe_bmK K PySem.F.plainAttrs_list PySem.F.slot_list_append PySem.F.type_list_append mt_append (pv 2) (pa_cons (pe_callB (by exact call_isAT hz hf) (by rfl) T.n_isinstance (by decide +kernel) (pa_cons (pv 3) (pa_cons (pe_tup (pa_cons (pe_glob (v := .ref _) (by rfl) T.g_NoTime rfl) (pa_cons (pe_glob (v := .ref _) (by rfl) T.g_NoDays rfl) (pa_cons (pe_glob (v := .ref _) (by rfl) T.g_NoCard rfl) (pa_cons (pe_glob (v := .ref _) (by rfl) T.g_NoName rfl) (pa_cons (pe_glob (v := .ref _) (by rfl) T.g_NoRow rfl) (pa_cons (pe_glob (v := .ref _) (by rfl) T.g_NoText rfl) pa_nil))))))) pa_nil))) pa_nil)))))))
      (pss_one (ps_ret (pv 2))))), ?_⟩
    refine ⟨(by show 1 ≤ sizeLine; decide), fun t0 nt0 => ?_⟩
    have X1 := ex_new (o := .lst [.str "told"]) nt0
    have ht1 : upd H t0 (.lst [.str "told"]) t0 = some (.lst [.str "told"]) := upd_same
    have ha1 := X1 _ _ ha
    generalize upd H t0 (.lst [.str "told"]) = H1 at X1 ht1 ha1 ⊢
    refine ⟨fun σ' H' => ∃ p, σ' = [some (.int 3), some (.ref a), some (.ref p), none] ∧ Ex H H' ∧ H' p = some (.lst (toldV b)), ?_, ?_⟩
    · unfold tTryFst
      generalize hW0 : wFst _ _ 3 _ _ = W0
      have hW : b = false → ∀ H2, Ex H H2 → W0 (.ref (He.ga K "NoPiece")) none [some (.int 3), some (.ref a), some (.ref t0), none] H2 := by
        intro hb H2 X2
        rw [← hW0]
        refine ⟨T.exm_NoPiece_GoingError, fun e ne => ?_⟩
        refine ⟨_, rfl, _, _, _, true, rfl, rfl, T.xc_NoPiece, rfl, .own _, T.kit_NoPiece_NoPiece, ?_⟩
        refine ⟨_, rfl, _, _, _, true, rfl, rfl, T.xc_NoPiece, rfl, .ty "ValueError", T.kit_NoPiece_ValueError, ?_⟩
        refine ⟨by show 2 ≤ sizeLine; decide, fun l nl => ?_⟩
        have X3 := X2.trans (ex_new (o := .lst [.bl true, .bl true]) nl)
        have hl3 : upd H2 l (.lst [.bl true, .bl true]) l = some (.lst [.bl true, .bl true]) := upd_same
        have nl0 := ex_fresh X2 nl
        generalize upd H2 l (.lst [.bl true, .bl true]) = H3 at X3 hl3 ⊢
        refine ⟨_, rfl, .inl ⟨rfl, _, sq_lst hl3⟩, _, rfl, by show 6 ≤ sizeLine; decide, fun tp np => ?_⟩
        refine ⟨_, tp, _, _, false, rfl, rfl, T.xc_NoPiece, rfl, upd_same, .cons (.own _) (.cons (.own _) (.cons (.own _) (.cons (.own _) (.cons (.own _) (.cons (.own _) .nil))))), ?_, ?_⟩
        · exact kitAny_cons T.kit_NoPiece_NoTime (fun _ => kitAny_cons T.kit_NoPiece_NoDays (fun _ => kitAny_cons T.kit_NoPiece_NoCard (fun _ => kitAny_cons T.kit_NoPiece_NoName (fun _ => kitAny_cons T.kit_NoPiece_NoRow (fun _ => kitAny_cons T.kit_NoPiece_NoText (fun _ => kitAny_nil) (by decide)) (by decide)) (by decide)) (by decide)) (by decide)) (by decide)
        refine ⟨l, _, _, rfl, rfl, ex_new np _ _ hl3, by show 2 < sizeLine; decide, ?_⟩
        refine ⟨l, rfl, ?_, ?_⟩
        · exact ex_mut (X3.trans (ex_new np)) nl0
        · rw [hb]
          exact upd_same
      refine ⟨_, rfl, rfl, _, rfl, iteF ?_⟩
      refine ⟨_, rfl, rfl, _, rfl, iteF ?_⟩
      refine ⟨_, rfl, rfl, _, rfl, iteF ?_⟩
      refine ⟨_, rfl, _, _, _, _, rfl, rfl, sq_lst ha1, rfl, x, rfl, ?_⟩
      rcases hw with ⟨l, rfl, hl, hi, rfl⟩ | ⟨t, ty, kt, rfl⟩
      · refine .inl ⟨l, rfl, hl, hi, fun ts e a2 H2 X2 _ _ _ => ⟨t0, rfl, X1.trans X2, ?_⟩, fun e H2 X2 => hW (by rw [e]; rfl) _ (X1.trans X2)⟩
        rw [e]
        exact X2 _ _ ht1
      · exact .inr ⟨t, tyX_mono X1 ty, kt, hW rfl _ X1⟩
    · rintro σ' H' ⟨p, rfl, X, hp⟩
      exact ⟨_, rfl, q p H' X hp⟩
theorem ok__law_word_of {P : Program} {w : World} {K : PySem.W.Frag} {mg : Str → Option Value} {base : Heap} (T : Env K mg) : Fc P w K mg base 110 (He.ga K "_law_word_of") [] (sp__law_word_of K ) := by
  obtain ⟨fd, D, F⟩ := fb__law_word_of T
  exact F.all (D.bindsN fun _ _ _ _ _ _ us hl => match us, hl with | [_, _], _ => rfl)
end
section
def sp__law_is_refused (K : PySem.W.Frag) : Sp := fun vs H Q _ => ∃ (a : Addr) (x : V), vs = [.int 3, .ref a] ∧ H a = some (.lst [x]) ∧ RdX K H x false ∧ ∀ H', Ex H H' → Q (.bl true) H'
theorem fb__law_is_refused {P : Program} {w : World} {K : PySem.W.Frag} {mg : Str → Option Value} {base : Heap} (T : Env K mg) : ∃ fd, FunD K "_law_is_refused" "_law_is_refused" (defArgs s__law_is_refused) (defBody s__law_is_refused) (defScope s__law_is_refused) [] [] (He.ga K "_law_is_refused") fd ∧ Fb P w K mg base 112 (He.ga K "_law_is_refused") fd ["_law_kind", "_law_things"] (sp__law_is_refused K) := by
  obtain ⟨fd, F⟩ := T.f__law_is_refused
  refine ⟨fd, F, fb_of F sc__law_is_refused (fun vs H Q E h => ?_) (fun cdv A outer s H vs Q E hr h => ?_)⟩
  · obtain ⟨a, x, rfl, _⟩ := h
    rfl
  · obtain ⟨a, x, rfl, ha, hw, q⟩ := h
    refine ⟨_, (pss_one (ps_ret (pe_cmpR (op_eqD hr.rm.units) (c_call (ok__law_word_of T) (hr.mono (by decide)) T.g__law_word_of T.k__law_word_of takes0 (pa_cons (pv 0) (pa_cons (pv 1) pa_nil))) (pe_lst (pa_cons pe_bl (pa_cons pe_bl (pa_cons pe_bl pa_nil)))) (nomark _)))), ?_⟩
    refine ⟨_, rfl, _, rfl, a, x, false, rfl, ha, hw, fun p H1 X1 hp => ⟨by show 3 ≤ sizeLine; decide, fun l nl => ?_⟩⟩
    refine ⟨.list [.bool true, .bool true, .bool false], .list [.bool true, .bool true, .bool false], ?_, ?_, rfl, rfl, ?_⟩
    · exact .lst (sq_lst (ex_new nl _ _ hp)) (.cons (.bl _) (.cons (.bl _) (.cons (.bl _) .nil)))
    · exact .lst (sq_lst upd_same) (.cons (.bl _) (.cons (.bl _) (.cons (.bl _) .nil)))
    exact q _ (X1.trans (ex_new nl))
theorem ok__law_is_refused {P : Program} {w : World} {K : PySem.W.Frag} {mg : Str → Option Value} {base : Heap} (T : Env K mg) : Fc P w K mg base 112 (He.ga K "_law_is_refused") [] (sp__law_is_refused K ) := by
  obtain ⟨fd, D, F⟩ := fb__law_is_refused T
  exact F.all (D.bindsN fun _ _ _ _ _ _ us hl => match us, hl with | [_, _], _ => rfl)
end
section
theorem val_snoc (u : List Nat) (c : Nat) : NumText.digitsVal (u ++ [c]) = NumText.digitsVal u * 10 + (c - 48) := by
  unfold NumText.digitsVal
  rw [List.foldl_append]
  rfl
theorem numL_back : ∀ (k : Nat) (w : List Nat), w.length ≤ k → w ≠ [] → NumText.AllDigits w → w.head? ≠ some 48 → TL.numL (NumText.digitsVal w) = w ∧ 1 ≤ NumText.digitsVal w
  | 0, w, hl, hne, _, _ => absurd (List.length_eq_zero_iff.mp (by omega)) hne
  | k + 1, w, hl, hne, hd, hh => by
    have ew := List.dropLast_concat_getLast hne
    have hc := hd (w.getLast hne) (List.getLast_mem hne)
    generalize w.getLast hne = c at ew hc
    generalize hu : w.dropLast = u at ew
    subst ew
    have hc2 : 48 ≤ c ∧ c ≤ 57 := hc
    rw [val_snoc]
    by_cases u0 : u = []
    · subst u0
      have c0 : c ≠ 48 := fun z => hh (by rw [z]; rfl)
      have e : NumText.digitsVal [] = 0 := rfl
      rw [e, TL.numL_lt (by omega)]
      refine ⟨?_, by omega⟩
      show [48 + (0 * 10 + (c - 48))] = [c]
      rw [show 48 + (0 * 10 + (c - 48)) = c by omega]
    · have hh2 : u.head? ≠ some 48 := fun z => hh (by
        cases u with
        | nil => exact absurd rfl u0
        | cons a r => exact z)
      obtain ⟨h1, h2⟩ := numL_back k u (by simp at hl; omega) u0 (fun x hx => hd x (List.mem_append_left _ hx)) hh2
      rw [TL.numL_step (by omega)]
      rw [show (NumText.digitsVal u * 10 + (c - 48)) / 10 = NumText.digitsVal u by omega, show 48 + (NumText.digitsVal u * 10 + (c - 48)) % 10 = c by omega, h1]
      exact ⟨rfl, by omega⟩
theorem num_inv {w : List Nat} {n : Nat} (h : Mo.num? w = some n) : TL.numL n = w := by
  unfold Mo.num? at h
  split at h
  · rename_i c
    injection h with h
    subst h
    obtain ⟨c1, c2⟩ := Bool.and_eq_true_iff.mp c
    obtain ⟨h0, hd⟩ := Mo.figs_iff.mp c1
    by_cases hh : w.head? = some 48
    · rw [hh] at c2
      have l1 : ¬ 1 < w.length := by simpa using c2
      cases w with
      | nil => exact absurd rfl h0
      | cons a r =>
        have : r = [] := List.length_eq_zero_iff.mp (by rw [List.length_cons] at l1; omega)
        subst this
        injection hh with hh
        subst hh
        decide +kernel
    · exact (numL_back w.length w (Nat.le_refl _) h0 hd hh).1
  · cases h
end
section
mutual
def Tr.b0 : Tr → Nat
  | .at n => n
  | .ov ps _ _ => b0L ps
def b0L : List Tr → Nat
  | [] => 0
  | t :: _ => t.b0
end
mutual
def Tr.e0 : Tr → Nat
  | .at n => n
  | .ov ps m s => e0L ps + (m - 1) * s
def e0L : List Tr → Nat
  | [] => 0
  | t :: r => if r.isEmpty then t.e0 else e0L r
end
mutual
def Tr.n0 : Tr → Nat
  | .at _ => 1
  | .ov ps m _ => m * n0L ps
def n0L : List Tr → Nat
  | [] => 0
  | t :: r => t.n0 + n0L r
end
theorem n0L_cons (t : Tr) (r : List Tr) : n0L (t :: r) = t.n0 + n0L r := by rw [n0L]
theorem log255 {n : Nat} (h : n < 10 ^ 255) : n.log2 < 1000 := PySem.Flt.log2_lt_of (by decide) (Nat.lt_trans h (by decide +kernel))
theorem mulW_ok {m s : Nat} (f1 : m < 10 ^ 255) (f2 : s < 10 ^ 255) : CMulW (((m : Nat) : Int) - 1) ((s : Nat) : Int) := by
  have l1 := log255 (show (((m : Nat) : Int) - 1).natAbs < 10 ^ 255 by omega)
  have l2 := log255 (show ((s : Nat) : Int).natAbs < 10 ^ 255 by omega)
  show _ < 1000000
  omega
def ris0 (ts : List Tr) : Bool := (ts.zip (ts.drop 1)).all fun p => decide (p.1.e0 < p.2.b0)
def isR0 (ts : List Tr) : Bool := ris0 ts && decide (n0L ts ≤ 1440)
mutual
def Tr.wk : Tr → Prop
  | .at _ => True
  | .ov ps m s => ps ≠ [] ∧ 2 ≤ m ∧ e0L ps < s + b0L ps ∧ isR0 ps = true ∧ wkL ps
def wkL : List Tr → Prop
  | [] => True
  | t :: r => t.wk ∧ wkL r
end
theorem e0L_one (t : Tr) : e0L [t] = t.e0 := by
  rw [e0L]
  rfl
theorem e0L_cons (t x : Tr) (r : List Tr) : e0L (t :: x :: r) = e0L (x :: r) := by
  rw [e0L]
  rfl
theorem ris0_cons (t x : Tr) (r : List Tr) : ris0 (t :: x :: r) = (decide (t.e0 < x.b0) && ris0 (x :: r)) := rfl
theorem risB_cons' (t x : Tr) (r : List Tr) : risB (t :: x :: r) = (decide (t.moms.getLastD 0 < x.moms.headD 0) && risB (x :: r)) := rfl
theorem wkL_app : ∀ {a b : List Tr}, wkL a → wkL b → wkL (a ++ b)
  | [], b, _, h => h
  | t :: a, b, h1, h2 => by
    unfold wkL at h1
    show wkL (t :: (a ++ b))
    unfold wkL
    exact ⟨h1.1, wkL_app h1.2 h2⟩
theorem wkL_one {t : Tr} (h : t.wk) : wkL [t] := by
  unfold wkL
  exact ⟨h, by unfold wkL; trivial⟩
mutual
def Tr.nz : Tr → Prop
  | .at _ => True
  | .ov ps m _ => ps ≠ [] ∧ 1 ≤ m ∧ nzL ps
def nzL : List Tr → Prop
  | [] => True
  | t :: r => t.nz ∧ nzL r
end
mutual
theorem wk_nz : ∀ {t : Tr}, t.wk → t.nz
  | .at n, _ => by
    unfold Tr.nz
    trivial
  | .ov ps m s, h => by
    unfold Tr.wk at h
    unfold Tr.nz
    exact ⟨h.1, by omega, wkL_nz h.2.2.2.2⟩
theorem wkL_nz : ∀ {ts : List Tr}, wkL ts → nzL ts
  | [], _ => by
    unfold nzL
    trivial
  | t :: r, h => by
    unfold wkL at h
    unfold nzL
    exact ⟨wk_nz h.1, wkL_nz h.2⟩
end
theorem nzL_mem {t : Tr} : ∀ {ts : List Tr}, nzL ts → t ∈ ts → t.nz
  | x :: r, h, hm => by
    unfold nzL at h
    rcases List.mem_cons.mp hm with rfl | hm
    · exact h.1
    · exact nzL_mem h.2 hm
/-- the last one of a row -/
theorem e0L_snoc (t : Tr) : ∀ ts : List Tr, e0L (ts ++ [t]) = t.e0
  | [] => e0L_one t
  | [x] => by
    show e0L (x :: t :: []) = _
    rw [e0L_cons, e0L_one]
  | x :: y :: r => by
    show e0L (x :: y :: (r ++ [t])) = _
    rw [e0L_cons]
    exact e0L_snoc t (y :: r)
theorem wkL_mem {t : Tr} : ∀ {ts : List Tr}, wkL ts → t ∈ ts → t.wk
  | x :: r, h, hm => by
    unfold wkL at h
    rcases List.mem_cons.mp hm with rfl | hm
    · exact h.1
    · exact wkL_mem h.2 hm
mutual
theorem wk_ok : ∀ {t : Tr}, t.wk → t.n0 ≤ 1440 → t.ok ∧ t.moms.length = t.n0 ∧ t.moms.headD 0 = t.b0 ∧ t.moms.getLastD 0 = t.e0
  | .at n, _, _ => by
    refine ⟨by unfold Tr.ok; trivial, ?_, ?_, ?_⟩
    · rw [Tr.moms, Tr.n0]
      rfl
    · rw [Tr.moms, Tr.b0]
      rfl
    · rw [Tr.moms, Tr.e0]
      rfl
  | .ov ps m s, h, hn => by
    unfold Tr.wk at h
    obtain ⟨h1, h2, h3, h4, h5⟩ := h
    obtain ⟨h41, h42⟩ := Bool.and_eq_true_iff.mp h4
    have h42 := of_decide_eq_true h42
    obtain ⟨k1, k2, k3, k4⟩ := wkL_ok h5 h42
    obtain ⟨k5, k6⟩ := k4 h1
    have ne := momsL_ne k1 h1
    rw [Tr.n0] at hn
    refine ⟨?_, ?_, ?_, ?_⟩
    · unfold Tr.ok
      have hs := ris_sorted k1 (by rw [k3]; exact h41)
      have hle := headD_le hs _ (lastD_mem ne)
      exact ⟨h1, h2, by omega, by rw [k2]; exact hn, by omega, hs, k1⟩
    · rw [Tr.moms, overN_len, Tr.n0, k2]
    · rw [Tr.moms, overN_head ne m (by omega), Tr.b0, k5]
    · rw [Tr.moms, overN_last ne (by omega), Tr.e0, k6]
theorem wkL_ok : ∀ {ts : List Tr}, wkL ts → n0L ts ≤ 1440 → okL_ ts ∧ (momsL ts).length = n0L ts ∧ risB ts = ris0 ts ∧ (ts ≠ [] → (momsL ts).headD 0 = b0L ts ∧ (momsL ts).getLastD 0 = e0L ts)
  | [], _, _ => by
    refine ⟨by unfold okL_; trivial, ?_, rfl, fun z => absurd rfl z⟩
    rw [momsL, n0L]
    rfl
  | [t], h, hn => by
    unfold wkL at h
    rw [n0L] at hn
    obtain ⟨k1, k2, k3, k4⟩ := wk_ok h.1 (by omega)
    refine ⟨okL_one k1, ?_, rfl, fun _ => ?_⟩
    · rw [momsL_one, k2, n0L, n0L]
      rfl
    · rw [momsL_one, k3, k4, e0L_one, b0L]
      exact ⟨rfl, rfl⟩
  | t :: x :: r, h, hn => by
    unfold wkL at h
    rw [n0L] at hn
    obtain ⟨k1, k2, k3, k4⟩ := wk_ok h.1 (by omega)
    obtain ⟨j1, j2, j3, j4⟩ := wkL_ok h.2 (by omega)
    obtain ⟨j5, j6⟩ := j4 (by simp)
    have ok : okL_ (t :: x :: r) := by
      unfold okL_
      exact ⟨k1, j1⟩
    have jx := momsL_head j1
    refine ⟨ok, ?_, ?_, fun _ => ⟨?_, ?_⟩⟩
    · rw [momsL, List.length_append, k2, j2, n0L_cons t]
    · rw [risB_cons', ris0_cons, j3, k4, ← jx, j5, b0L]
    · rw [momsL_head ok, k3, b0L]
    · rw [momsL, lastD_app (momsL_ne j1 (by simp)), j6, e0L_cons]
end
mutual
theorem ok_wk : ∀ {t : Tr}, t.ok → t.wk ∧ t.moms.length = t.n0 ∧ t.moms.headD 0 = t.b0 ∧ t.moms.getLastD 0 = t.e0
  | .at n, _ => by
    refine ⟨by unfold Tr.wk; trivial, ?_, ?_, ?_⟩
    · rw [Tr.moms, Tr.n0]
      rfl
    · rw [Tr.moms, Tr.b0]
      rfl
    · rw [Tr.moms, Tr.e0]
      rfl
  | .ov ps m s, h => by
    unfold Tr.ok at h
    obtain ⟨h1, h2, h3, h4, h5, h6, h7⟩ := h
    obtain ⟨k1, k2, k3, k4⟩ := okL_wk h7
    obtain ⟨k5, k6⟩ := k4 h1
    have ne := momsL_ne h7 h1
    refine ⟨?_, ?_, ?_, ?_⟩
    · unfold Tr.wk
      have := Nat.le_mul_of_pos_left (momsL ps).length (show 0 < m by omega)
      exact ⟨h1, h2, by omega, Bool.and_eq_true_iff.mpr ⟨by rw [← k3]; exact ris_of h7 h6, decide_eq_true (by omega)⟩, k1⟩
    · rw [Tr.moms, overN_len, Tr.n0, k2]
    · rw [Tr.moms, overN_head ne m (by omega), Tr.b0, k5]
    · rw [Tr.moms, overN_last ne (by omega), Tr.e0, k6]
theorem okL_wk : ∀ {ts : List Tr}, okL_ ts → wkL ts ∧ (momsL ts).length = n0L ts ∧ risB ts = ris0 ts ∧ (ts ≠ [] → (momsL ts).headD 0 = b0L ts ∧ (momsL ts).getLastD 0 = e0L ts)
  | [], _ => by
    refine ⟨by unfold wkL; trivial, ?_, rfl, fun z => absurd rfl z⟩
    rw [momsL, n0L]
    rfl
  | [t], h => by
    unfold okL_ at h
    obtain ⟨k1, k2, k3, k4⟩ := ok_wk h.1
    refine ⟨wkL_one k1, ?_, rfl, fun _ => ?_⟩
    · rw [momsL_one, k2, n0L, n0L]
      rfl
    · rw [momsL_one, k3, k4, e0L_one, b0L]
      exact ⟨rfl, rfl⟩
  | t :: x :: r, h => by
    have ok := h
    unfold okL_ at h
    obtain ⟨k1, k2, k3, k4⟩ := ok_wk h.1
    obtain ⟨j1, j2, j3, j4⟩ := okL_wk h.2
    obtain ⟨j5, j6⟩ := j4 (by simp)
    have jx := momsL_head h.2
    refine ⟨?_, ?_, ?_, fun _ => ⟨?_, ?_⟩⟩
    · unfold wkL
      exact ⟨k1, j1⟩
    · rw [momsL, List.length_append, k2, j2, n0L_cons t]
    · rw [risB_cons', ris0_cons, j3, k4, ← jx, j5, b0L]
    · rw [momsL_head ok, k3, b0L]
    · rw [momsL, lastD_app (momsL_ne h.2 (by simp)), j6, e0L_cons]
end
/-- a row that the law takes for a spread's -/
theorem isR0_spr {ts : List Tr} (h : wkL ts) (hr : isR0 ts = true) : okL_ ts ∧ sprB ts = true := by
  obtain ⟨h1, h2⟩ := Bool.and_eq_true_iff.mp hr
  obtain ⟨k1, k2, k3, _⟩ := wkL_ok h (of_decide_eq_true h2)
  refine ⟨k1, Bool.and_eq_true_iff.mpr ⟨by rw [k3]; exact h1, decide_eq_true ?_⟩⟩
  rw [k2]
  exact of_decide_eq_true h2
theorem spr_isR0 {ts : List Tr} (h : okL_ ts) (hr : sprB ts = true) : wkL ts ∧ isR0 ts = true := by
  obtain ⟨h1, h2⟩ := Bool.and_eq_true_iff.mp hr
  obtain ⟨k1, k2, k3, _⟩ := okL_wk h
  refine ⟨k1, Bool.and_eq_true_iff.mpr ⟨by rw [← k3]; exact h1, decide_eq_true ?_⟩⟩
  rw [← k2]
  exact of_decide_eq_true h2
theorem clkOf_inv {l : List Nat} {n : Nat} (h : Mo.clkOf l = some n) : Mo.clk n = l ∧ n < 1440 := by
  have lt := clkOf_lt h
  unfold Mo.clkOf at h
  split at h
  · cases h
  · rename_i a m hp
    obtain ⟨p', e1, e2, _⟩ := Mo.par_is hp
    rw [List.nil_append] at e1
    subst e1
    split at h
    · rename_i hc
      obtain ⟨h2, h3⟩ := Bool.and_eq_true_iff.mp hc
      have h2 := of_decide_eq_true h2
      split at h
      · rename_i k hk
        split at h
        · rename_i hh
          have en : k * 60 + Mo.val m = n := by injection h
          have ek := num_inv hk
          refine ⟨?_, lt⟩
          obtain ⟨x, y, rfl⟩ : ∃ x y, m = [x, y] := by
            match m, h2 with
            | [x, y], _ => exact ⟨x, y, rfl⟩
          have d := (Mo.figs_iff.mp h3).2
          have dx := d x (by simp)
          have dy := d y (by simp)
          have ev : Mo.val [x, y] = (x - 48) * 10 + (y - 48) := by
            show (0 * 10 + (x - 48)) * 10 + (y - 48) = _
            omega
          rw [e2]
          unfold Mo.clk Mo.two
          rw [← en, show (k * 60 + Mo.val [x, y]) % 1440 / 60 = k by omega, show (k * 60 + Mo.val [x, y]) % 60 = Mo.val [x, y] by omega, ek, ev]
          rw [show 48 + ((x - 48) * 10 + (y - 48)) / 10 = x by omega, show 48 + ((x - 48) * 10 + (y - 48)) % 10 = y by omega]
        · cases h
      · cases h
    · cases h
theorem momOf_inv {l : List Nat} {n : Nat} (h : Mo.momOf l = some n) : Mo.shw n = l := by
  unfold Mo.momOf at h
  split at h
  · obtain ⟨h1, h2⟩ := clkOf_inv h
    unfold Mo.shw
    rw [if_pos (by omega)]
    exact h1
  · rename_i a t hc
    have el := (Mo.rcut_is hc).1
    split at h
    · cases h
    · rename_i d hd
      obtain ⟨m, hm, e⟩ := Option.map_eq_some_iff.mp h
      obtain ⟨h1, h2⟩ := clkOf_inv hm
      unfold Mo.dayOf at hd
      split at hd
      · cases hd
      · rename_i hz
        have hd0 : d ≠ 0 := fun z => hz (by rw [← z]; exact hd)
        have ed := num_inv hd
        have ec : Mo.clk n = Mo.clk m := by
          unfold Mo.clk
          rw [← e, show (d * 1440 + m) % 1440 / 60 = m % 1440 / 60 by omega, show (d * 1440 + m) % 60 = m % 60 by omega]
        unfold Mo.shw
        rw [if_neg (by omega), ec, h1, el, ← e, show (d * 1440 + m) / 1440 = d by omega, ed]
end
section
def sp__law_begin (K : PySem.W.Frag) (d : Nat) : Sp := fun vs H Q _ => ∃ (b : Addr) (t : Tr), vs = [.ref b] ∧ DtAt H t b ∧ t.nest + 1 ≤ d ∧ t.nz ∧ Q (.int ((t.b0 : Nat) : Int)) H
theorem fb__law_begin {P : Program} {w : World} {K : PySem.W.Frag} {mg : Str → Option Value} {base : Heap} (T : Env K mg) {d L : Nat} (hL : 40 ≤ L) (r__law_begin : Fc P w K mg base L (He.ga K "_law_begin") [] (sp__law_begin K d)) : ∃ fd, FunD K "_law_begin" "_law_begin" (defArgs s__law_begin) (defBody s__law_begin) (defScope s__law_begin) [] [] (He.ga K "_law_begin") fd ∧ Fb P w K mg base (L + 1) (He.ga K "_law_begin") fd ["_law_short_here"] (sp__law_begin K (d + 1)) := by
  obtain ⟨fd, F⟩ := T.f__law_begin
  refine ⟨fd, F, fb_of F sc__law_begin (fun vs H Q E h => ?_) (fun cdv A outer s H vs Q E hr h => ?_)⟩
  · obtain ⟨b, t, rfl, _⟩ := h
    rfl
  · obtain ⟨b, t, rfl, hD, hn, hok, q⟩ := h
    refine ⟨_, (pss_cons (ps_if (pt_cmpR op_eq (pe_ix ix_tup (pv 0) pe_int (fun _ _ => rfl)) pe_str (nomark _))
      (pss_one (ps_ret (pe_ix ix_tup (pv 0) pe_int (fun _ _ => rfl))))
      pss_nil)
      (pss_one (ps_ret (c_call r__law_begin (hr.mono (by omega)) T.g__law_begin T.k__law_begin takes0 (pa_cons (pe_ix ix_tup (pe_ix ix_tup (pv 0) pe_int (fun _ _ => rfl)) pe_int (fun _ _ => rfl)) pa_nil))))), ?_⟩
    cases t with
    | «at» n =>
      unfold DtAt at hD
      unfold Tr.b0 at q
      refine ⟨_, rfl, _, _, _, _, rfl, rfl, (sq_tup hD), rfl, rfl, _, rfl, ?_⟩
      refine iteT ?_
      exact ⟨_, rfl, _, _, _, _, rfl, rfl, (sq_tup hD), rfl, q⟩
    | ov ps m s_ =>
      unfold DtAt at hD
      obtain ⟨r, bs, hD, hr2, hB⟩ := hD
      unfold Tr.nz at hok
      obtain ⟨o1, _, hz⟩ := hok
      refine ⟨_, rfl, _, _, _, _, rfl, rfl, (sq_tup hD), rfl, rfl, _, rfl, ?_⟩
      refine iteF ?_
      cases ps with
      | nil => exact absurd rfl o1
      | cons t ts =>
        unfold DtsAt at hB
        obtain ⟨b1, rr, rfl, hD1, _⟩ := hB
        have nm := nestL_mem (List.mem_cons_self (a := t) (l := ts))
        unfold Tr.nest at hn
        have e : (Tr.ov (t :: ts) m s_).b0 = t.b0 := by rw [Tr.b0, b0L]
        rw [e] at q
        exact ⟨_, rfl, _, _, _, _, rfl, rfl, (sq_tup hD), rfl, _, _, _, _, rfl, rfl, (sq_tup hr2), atI_nat (j := 0) rfl, b1, t, rfl, hD1, by omega, nzL_mem hz List.mem_cons_self, q⟩
theorem ok__law_begin {P : Program} {w : World} {K : PySem.W.Frag} {mg : Str → Option Value} {base : Heap} (T : Env K mg) {d L : Nat} (hL : 40 ≤ L) (r__law_begin : Fc P w K mg base L (He.ga K "_law_begin") [] (sp__law_begin K d)) : Fc P w K mg base (L + 1) (He.ga K "_law_begin") [] (sp__law_begin K (d + 1)) := by
  obtain ⟨fd, D, F⟩ := fb__law_begin T hL r__law_begin
  exact F.all (D.bindsN fun _ _ _ _ _ _ us hl => match us, hl with | [_], _ => rfl)
theorem all__law_begin {P : Program} {w : World} {K : PySem.W.Frag} {mg : Str → Option Value} {base : Heap} (T : Env K mg) : ∀ d, Fc P w K mg base (40 + 1 * d) (He.ga K "_law_begin") [] (sp__law_begin K d)
  | 0 => fc_no fun vs H Q E h => by
    obtain ⟨r, t, _, _, h, _⟩ := h
    omega
  | d + 1 => (ok__law_begin T (Nat.le_add_right 40 _) (all__law_begin T d)).mono (by omega)
end
section
def sp__law_end (K : PySem.W.Frag) (d : Nat) : Sp := fun vs H Q _ => ∃ (b : Addr) (t : Tr), vs = [.ref b] ∧ DtAt H t b ∧ t.nest + 1 ≤ d ∧ t.nz ∧ t.fit ∧ Q (.int ((t.e0 : Nat) : Int)) H
theorem last_dz {H : Hp} {ps : List Tr} {bs : List Addr} (hB : DtsAt H ps bs) (o1 : ps ≠ []) : ∃ b t, atI (bs.map V.ref) (-1) = some (.ref b) ∧ t ∈ ps ∧ DtAt H t b ∧ e0L ps = t.e0 := by
  have hl1 := hB.len
  have as0 : bs ≠ [] := fun z => by
    rw [z] at hl1
    exact o1 (List.length_eq_zero_iff.mp hl1.symm)
  obtain ⟨b, gb, aL⟩ := last_ref as0
  obtain ⟨t, ht, hS⟩ := hB.get gb
  have ep : ps = ps.dropLast ++ [t] := by
    have e := (List.dropLast_concat_getLast o1).symm
    have e2 : ps.getLast o1 = t := by
      rw [List.getLast_eq_getElem]
      rw [hl1] at ht
      obtain ⟨_, e⟩ := List.getElem?_eq_some_iff.mp ht
      exact e
    rw [e2] at e
    exact e
  refine ⟨b, t, aL, List.mem_of_getElem? ht, hS, ?_⟩
  rw [ep]
  exact e0L_snoc t _
theorem fb__law_end {P : Program} {w : World} {K : PySem.W.Frag} {mg : Str → Option Value} {base : Heap} (T : Env K mg) {d L : Nat} (hL : 40 ≤ L) (r__law_end : Fc P w K mg base L (He.ga K "_law_end") [] (sp__law_end K d)) : ∃ fd, FunD K "_law_end" "_law_end" (defArgs s__law_end) (defBody s__law_end) (defScope s__law_end) [] [] (He.ga K "_law_end") fd ∧ Fb P w K mg base (L + 1) (He.ga K "_law_end") fd ["_law_short_here"] (sp__law_end K (d + 1)) := by
  obtain ⟨fd, F⟩ := T.f__law_end
  refine ⟨fd, F, fb_of F sc__law_end (fun vs H Q E h => ?_) (fun cdv A outer s H vs Q E hr h => ?_)⟩
  · obtain ⟨b, t, rfl, _⟩ := h
    rfl
  · obtain ⟨b, t, rfl, hD, hn, hok, hf, q⟩ := h
    refine ⟨_, (pss_cons (ps_if (pt_cmpR op_eq (pe_ix ix_tup (pv 0) pe_int (fun _ _ => rfl)) pe_str (nomark _))
      (pss_one (ps_ret (pe_ix ix_tup (pv 0) pe_int (fun _ _ => rfl))))
      pss_nil)
      (pss_one (ps_ret (pe_op op_add (c_call r__law_end (hr.mono (by omega)) T.g__law_end T.k__law_end takes0 (pa_cons (pe_ix ix_tup (pe_ix ix_tup (pv 0) pe_int (fun _ _ => rfl)) (pe_un un_neg pe_int) (fun _ _ => rfl)) pa_nil)) (pe_op op_mulW (pe_op op_sub (pe_ix ix_tup (pv 0) pe_int (fun _ _ => rfl)) pe_int) (pe_ix ix_tup (pv 0) pe_int (fun _ _ => rfl))))))), ?_⟩
    cases t with
    | «at» n =>
      unfold DtAt at hD
      unfold Tr.e0 at q
      refine ⟨_, rfl, _, _, _, _, rfl, rfl, (sq_tup hD), rfl, rfl, _, rfl, ?_⟩
      refine iteT ?_
      exact ⟨_, rfl, _, _, _, _, rfl, rfl, (sq_tup hD), rfl, q⟩
    | ov ps m s_ =>
      unfold DtAt at hD
      obtain ⟨r, bs, hD, hr2, hB⟩ := hD
      unfold Tr.nz at hok
      unfold Tr.fit at hf
      obtain ⟨o1, m1, hz⟩ := hok
      obtain ⟨f1, f2, f3⟩ := hf
      refine ⟨_, rfl, _, _, _, _, rfl, rfl, (sq_tup hD), rfl, rfl, _, rfl, ?_⟩
      refine iteF ?_
      obtain ⟨b1, t, aL, htm, hD1, eL⟩ := last_dz hB o1
      have nm := nestL_mem htm
      unfold Tr.nest at hn
      have e : (Tr.ov ps m s_).e0 = t.e0 + (m - 1) * s_ := by rw [Tr.e0, eL]
      have em : ((m : Nat) : Int) - 1 = ((m - 1 : Nat) : Int) := by omega
      have e2 : ((t.e0 : Nat) : Int) + (((m : Nat) : Int) - 1) * ((s_ : Nat) : Int) = ((t.e0 + (m - 1) * s_ : Nat) : Int) := by
        rw [em, Int.natCast_add, Int.natCast_mul]
      rw [e, ← e2] at q
      exact ⟨_, rfl, _, _, _, _, rfl, rfl, (sq_tup hD), rfl, _, rfl, _, _, _, _, rfl, rfl, (sq_tup hr2), aL, b1, t, rfl, hD1, by omega, nzL_mem hz htm, fitL_mem f3 htm, _, rfl, _, _, _, _, rfl, rfl, (sq_tup hD), rfl, _, _, rfl, rfl, _, rfl, _, _, _, _, rfl, rfl, (sq_tup hD), rfl, _, _, rfl, rfl, mulW_ok f1 f2, _, _, rfl, rfl, q⟩
theorem ok__law_end {P : Program} {w : World} {K : PySem.W.Frag} {mg : Str → Option Value} {base : Heap} (T : Env K mg) {d L : Nat} (hL : 40 ≤ L) (r__law_end : Fc P w K mg base L (He.ga K "_law_end") [] (sp__law_end K d)) : Fc P w K mg base (L + 1) (He.ga K "_law_end") [] (sp__law_end K (d + 1)) := by
  obtain ⟨fd, D, F⟩ := fb__law_end T hL r__law_end
  exact F.all (D.bindsN fun _ _ _ _ _ _ us hl => match us, hl with | [_], _ => rfl)
theorem all__law_end {P : Program} {w : World} {K : PySem.W.Frag} {mg : Str → Option Value} {base : Heap} (T : Env K mg) : ∀ d, Fc P w K mg base (40 + 1 * d) (He.ga K "_law_end") [] (sp__law_end K d)
  | 0 => fc_no fun vs H Q E h => by
    obtain ⟨r, t, _, _, h, _⟩ := h
    omega
  | d + 1 => (ok__law_end T (Nat.le_add_right 40 _) (all__law_end T d)).mono (by omega)
end
section
def SqB (H : Hp) (p : Addr) (xs : List V) : Prop := H p = some (.lst xs) ∨ H p = some (.tup xs)
def sp__law_many (K : PySem.W.Frag) (d : Nat) : Sp := fun vs H Q _ => ∃ (p : Addr) (bs : List Addr) (ts : List Tr), vs = [.ref p] ∧ SqB H p (bs.map V.ref) ∧ DtsAt H ts bs ∧ nestL ts + 1 ≤ d ∧ wkL ts ∧ ts.length ≤ 10000 ∧ pcsL ts ≤ 10000 ∧ ∀ H', Ex H H' → Q (.int ((n0L ts : Nat) : Int)) H'
theorem sum_n0 : ∀ ts : List Tr, (ts.map fun t => ((t.n0 : Nat) : Int)).sum = ((n0L ts : Nat) : Int)
  | [] => rfl
  | t :: r => by
    rw [List.map_cons, List.sum_cons, sum_n0 r, n0L_cons]
    omega
theorem fb__law_many {P : Program} {w : World} {K : PySem.W.Frag} {mg : Str → Option Value} {base : Heap} (T : Env K mg) {d L : Nat} (hL : 40 ≤ L) (r__law_many : Fc P w K mg base L (He.ga K "_law_many") [] (sp__law_many K d)) : ∃ fd, FunD K "_law_many" "_law_many" (defArgs s__law_many) (defBody s__law_many) (defScope s__law_many) [] [] (He.ga K "_law_many") fd ∧ Fb P w K mg base (L + 1) (He.ga K "_law_many") fd ["_law_row_here"] (sp__law_many K (d + 1)) := by
  obtain ⟨fd, F⟩ := T.f__law_many
  refine ⟨fd, F, fb_of F sc__law_many (fun vs H Q E h => ?_) (fun cdv A outer s H vs Q E hr h => ?_)⟩
  · obtain ⟨p, bs, ts, rfl, _⟩ := h
    rfl
  · obtain ⟨p, bs, ts, rfl, hp, hB, hn, hok, hl, hpc, q⟩ := h
    refine ⟨_, (pss_one (ps_ret (pe_callB (cr_sum rfl) (by rfl) T.n_sum (by decide +kernel) (pa_cons (pe_lc (own := [("_law_short_here", 1)]) (by rfl) sc__law_many.nd (pi_seq (pv 0)) (blkOk_by (own := [("_law_short_here", 1)]) (N := ["_law_row_here", "_law_short_here"]) (sc := defScope s__law_many) (by decide +kernel)) (fun _ _ _ _ _ => (pg_name (i := 1) sc__law_many.nd rfl (Or.inl rfl))) (fun _ _ _ _ _ => pts_nil) (fun _ _ _ _ _ => (pe_ifExp (pt_cmpR op_eq (pe_ix (ix_tupK K) (pv 1) pe_int (fun _ _ => rfl)) pe_str (nomark _)) pe_int (pe_op op_mul (pe_ix (ix_tupK K) (pv 1) pe_int (fun _ _ => rfl)) (c_call r__law_many (hr.mono (by omega)) T.g__law_many T.k__law_many takes0 (pa_cons (pe_ix (ix_tupK K) (pv 1) pe_int (fun _ _ => rfl)) pa_nil)))))) pa_nil)))), ?_⟩
    have hl1 := hB.len
    rcases hp with hp | hp
    · refine .inl ⟨_, rfl, p, rfl, ⟨_, sq_lst hp⟩, fun A nA => lc_fm L2.walk_list (fun i => (ts[i]?).map fun t => .int ((t.n0 : Nat) : Int)) (fun H' => Ex H H') (fun H' z e => ex_mut e nA) (.refl _) (by rw [List.length_map]; omega) (fun H' e => sq_lst (e _ _ hp)) (fun i x H2 H3 acc N hi e hD' la y k => ?_) fun H3 X3 d3 => ?_⟩
      · obtain ⟨rfl, y⟩ := y
        rw [List.getElem?_map] at y
        obtain ⟨a, ha, rfl⟩ := Option.map_eq_some_iff.mp y
        obtain ⟨t, ht, hS⟩ := hB.get ha
        have htm := List.mem_of_getElem? ht
        have nm := nestL_mem htm
        have pm := pcsL_mem htm
        have wt := wkL_mem hok htm
        have k2 := fun H4 (X4 : Ex H3 H4) => k H4 (e.trans X4) (X4 _ _ hD')
        rw [ht] at k2
        have hS3 := hS.mono e
        cases t with
        | «at» n =>
          unfold DtAt at hS3
          simp only [Option.map_some, Tr.n0] at k2
          refine ⟨rfl, ?_⟩
          simp only [tYes, reduceIte]
          refine ⟨_, rfl, _, _, _, _, rfl, rfl, sq_tup hS3, rfl, rfl, _, rfl, ?_⟩
          refine iteT ?_
          exact ⟨acc, hD', la, k2 H3 (.refl _)⟩
        | ov ps m s_ =>
          unfold DtAt at hS3
          obtain ⟨r, cs, hS3, hr2, hC⟩ := hS3
          unfold Tr.wk at wt
          obtain ⟨w1, w2, w3, w4, w5⟩ := wt
          unfold Tr.nest at nm
          unfold Tr.pcs at pm
          have w6 := of_decide_eq_true (Bool.and_eq_true_iff.mp w4).2
          have w7 := len_pcsL ps
          simp only [Option.map_some, Tr.n0] at k2
          refine ⟨rfl, ?_⟩
          simp only [tYes, reduceIte]
          refine ⟨_, rfl, _, _, _, _, rfl, rfl, sq_tup hS3, rfl, rfl, _, rfl, ?_⟩
          refine iteF ?_
          refine ⟨_, rfl, _, _, _, _, rfl, rfl, sq_tup hS3, rfl, _, rfl, _, _, _, _, rfl, rfl, sq_tup hS3, rfl, r, cs, ps, rfl, .inr hr2, hC, by omega, w5, by omega, by omega, fun H4 X4 => ?_⟩
          have k4 := k2 H4 X4
          rw [Int.natCast_mul] at k4
          exact ⟨_, _, rfl, rfl, .inr ⟨by omega, by omega⟩, acc, X4 _ _ hD', la, k4⟩
      · rw [List.length_map, hl1, range_opt ts (fun t => V.int ((t.n0 : Nat) : Int))] at d3
        have e1 : ts.map (fun t => V.int ((t.n0 : Nat) : Int)) = (ts.map fun t => ((t.n0 : Nat) : Int)).map V.int := by
          rw [List.map_map]
          rfl
        rw [e1] at d3
        refine ⟨A, _, rfl, sq_lst d3, ?_⟩
        rw [sum_n0]
        exact q _ X3
    · refine .inr ⟨_, rfl, p, rfl, ⟨_, sq_tup hp⟩, fun A nA => lc_fm L2.walk_tup (fun i => (ts[i]?).map fun t => .int ((t.n0 : Nat) : Int)) (fun H' => Ex H H') (fun H' z e => ex_mut e nA) (.refl _) (by rw [List.length_map]; omega) (fun H' e => sq_tup (e _ _ hp)) (fun i x H2 H3 acc N hi e hD' la y k => ?_) fun H3 X3 d3 => ?_⟩
      · obtain ⟨rfl, y⟩ := y
        rw [List.getElem?_map] at y
        obtain ⟨a, ha, rfl⟩ := Option.map_eq_some_iff.mp y
        obtain ⟨t, ht, hS⟩ := hB.get ha
        have htm := List.mem_of_getElem? ht
        have nm := nestL_mem htm
        have pm := pcsL_mem htm
        have wt := wkL_mem hok htm
        have k2 := fun H4 (X4 : Ex H3 H4) => k H4 (e.trans X4) (X4 _ _ hD')
        rw [ht] at k2
        have hS3 := hS.mono e
        cases t with
        | «at» n =>
          unfold DtAt at hS3
          simp only [Option.map_some, Tr.n0] at k2
          refine ⟨rfl, ?_⟩
          simp only [tYes, reduceIte]
          refine ⟨_, rfl, _, _, _, _, rfl, rfl, sq_tup hS3, rfl, rfl, _, rfl, ?_⟩
          refine iteT ?_
          exact ⟨acc, hD', la, k2 H3 (.refl _)⟩
        | ov ps m s_ =>
          unfold DtAt at hS3
          obtain ⟨r, cs, hS3, hr2, hC⟩ := hS3
          unfold Tr.wk at wt
          obtain ⟨w1, w2, w3, w4, w5⟩ := wt
          unfold Tr.nest at nm
          unfold Tr.pcs at pm
          have w6 := of_decide_eq_true (Bool.and_eq_true_iff.mp w4).2
          have w7 := len_pcsL ps
          simp only [Option.map_some, Tr.n0] at k2
          refine ⟨rfl, ?_⟩
          simp only [tYes, reduceIte]
          refine ⟨_, rfl, _, _, _, _, rfl, rfl, sq_tup hS3, rfl, rfl, _, rfl, ?_⟩
          refine iteF ?_
          refine ⟨_, rfl, _, _, _, _, rfl, rfl, sq_tup hS3, rfl, _, rfl, _, _, _, _, rfl, rfl, sq_tup hS3, rfl, r, cs, ps, rfl, .inr hr2, hC, by omega, w5, by omega, by omega, fun H4 X4 => ?_⟩
          have k4 := k2 H4 X4
          rw [Int.natCast_mul] at k4
          exact ⟨_, _, rfl, rfl, .inr ⟨by omega, by omega⟩, acc, X4 _ _ hD', la, k4⟩
      · rw [List.length_map, hl1, range_opt ts (fun t => V.int ((t.n0 : Nat) : Int))] at d3
        have e1 : ts.map (fun t => V.int ((t.n0 : Nat) : Int)) = (ts.map fun t => ((t.n0 : Nat) : Int)).map V.int := by
          rw [List.map_map]
          rfl
        rw [e1] at d3
        refine ⟨A, _, rfl, sq_lst d3, ?_⟩
        rw [sum_n0]
        exact q _ X3
theorem ok__law_many {P : Program} {w : World} {K : PySem.W.Frag} {mg : Str → Option Value} {base : Heap} (T : Env K mg) {d L : Nat} (hL : 40 ≤ L) (r__law_many : Fc P w K mg base L (He.ga K "_law_many") [] (sp__law_many K d)) : Fc P w K mg base (L + 1) (He.ga K "_law_many") [] (sp__law_many K (d + 1)) := by
  obtain ⟨fd, D, F⟩ := fb__law_many T hL r__law_many
  exact F.all (D.bindsN fun _ _ _ _ _ _ us hl => match us, hl with | [_], _ => rfl)
theorem all__law_many {P : Program} {w : World} {K : PySem.W.Frag} {mg : Str → Option Value} {base : Heap} (T : Env K mg) : ∀ d, Fc P w K mg base (40 + 1 * d) (He.ga K "_law_many") [] (sp__law_many K d)
  | 0 => fc_no fun vs H Q E h => by
    obtain ⟨r, bs, ts, _, _, _, h, _⟩ := h
    omega
  | d + 1 => (ok__law_many T (Nat.le_add_right 40 _) (all__law_many T d)).mono (by omega)
end
section
def sp__law_is_row (K : PySem.W.Frag) : Sp := fun vs H Q _ => ∃ (p : Addr) (bs : List Addr) (ts : List Tr), vs = [.ref p] ∧ H p = some (.lst (bs.map V.ref)) ∧ DtsAt H ts bs ∧ nestL ts ≤ 9 ∧ wkL ts ∧ fitL ts ∧ ts.length ≤ 10000 ∧ pcsL ts ≤ 10000 ∧ ∀ H', Ex H H' → Q (.bl (isR0 ts)) H'
theorem fb__law_is_row {P : Program} {w : World} {K : PySem.W.Frag} {mg : Str → Option Value} {base : Heap} (T : Env K mg) : ∃ fd, FunD K "_law_is_row" "_law_is_row" (defArgs s__law_is_row) (defBody s__law_is_row) (defScope s__law_is_row) [] [] (He.ga K "_law_is_row") fd ∧ Fb P w K mg base 62 (He.ga K "_law_is_row") fd ["_law_row_here"] (sp__law_is_row K) := by
  obtain ⟨fd, F⟩ := T.f__law_is_row
  refine ⟨fd, F, fb_of F sc__law_is_row (fun vs H Q E h => ?_) (fun cdv A outer s H vs Q E hr h => ?_)⟩
  · obtain ⟨p, bs, ts, rfl, _⟩ := h
    rfl
  · obtain ⟨p, as, ts, rfl, hp, hA, hn, hok, hf, hl, hpc, q⟩ := h
    refine ⟨_, (pss_cons (ps_set (i := 1) sc__law_is_row.nd rfl (Or.inl rfl) (pe_callB (cr_all rfl) (by rfl) T.n_all (by decide +kernel) (pa_cons (pe_lc (own := [("_law_one", 2), ("_law_other", 3)]) (by rfl) sc__law_is_row.nd (RZ.pi_zipA (by rfl) T.n_zip (pa_cons (pv 0) (pa_cons (pe_slice sl_list (pv 0) (po_some pe_int) po_none) pa_nil))) (blkOk_by (own := [("_law_one", 2), ("_law_other", 3)]) (N := ["_law_row_here", "_law_rising", "_law_one", "_law_other"]) (sc := defScope s__law_is_row) (by decide +kernel)) (fun _ _ _ _ _ => (pg_tupK K (n := 2) rfl (pgs_cons (pg_name (i := 2) sc__law_is_row.nd rfl (Or.inl rfl)) (pgs_cons (pg_name (i := 3) sc__law_is_row.nd rfl (Or.inl rfl)) pgs_nil)))) (fun _ _ _ _ _ => pts_nil) (fun _ _ _ _ _ => (pe_cmpR op_lt (c_call (all__law_end T 10) (hr.mono (by decide)) T.g__law_end T.k__law_end takes0 (pa_cons (pv 2) pa_nil)) (c_call (all__law_begin T 10) (hr.mono (by decide)) T.g__law_begin T.k__law_begin takes0 (pa_cons (pv 3) pa_nil)) (nomark _)))) pa_nil)))
      (pss_one (ps_ret (pe_and (pv 1) (pe_one (pe_cmpR op_le (c_call (all__law_many T 10) (hr.mono (by decide)) T.g__law_many T.k__law_many takes0 (pa_cons (pv 0) pa_nil)) pe_int (nomark _))))))), ?_⟩
    refine ⟨_, rfl, _, rfl, _, rfl, _, _, rfl, (sq_lst hp), ?_⟩
    intro b2 nb2
    have X4 := ex_new (o := HO.lst (cutV (as.map V.ref) (some 1) none)) nb2
    have hb2 : upd H b2 (HO.lst (cutV (as.map V.ref) (some 1) none)) b2 = some (HO.lst (cutV (as.map V.ref) (some 1) none)) := upd_same
    generalize upd H b2 (HO.lst (cutV (as.map V.ref) (some 1) none)) = H4 at X4 hb2 ⊢
    rw [cut1] at hb2
    have ed : (as.map V.ref).drop 1 = (as.drop 1).map V.ref := by rw [List.map_drop]
    rw [ed] at hb2
    have hA4 := hA.mono X4
    have hl1 := hA.len
    have hz1 : (as.zip ts).map (fun p => V.ref p.1) = as.map V.ref := by
      show (as.zip ts).map (V.ref ∘ Prod.fst) = _
      rw [← List.map_map, List.map_fst_zip (by omega)]
    have hz1d : ((as.zip ts).drop 1).map (fun p => V.ref p.1) = (as.drop 1).map V.ref := by rw [List.map_drop, List.map_drop, hz1]
    have hz2 : (as.zip ts).map Prod.snd = ts := List.map_snd_zip (by omega)
    have zl : (as.zip ts).length ≤ 20000 := by rw [List.length_zip]; omega
    have hp4 : H4 p = some (.lst ((as.zip ts).map fun p => V.ref p.1)) := by rw [hz1]; exact X4 _ _ hp
    rw [← hz1d] at hb2
    refine ⟨p, b2, (as.zip ts).map (fun p => V.ref p.1), ((as.zip ts).drop 1).map (fun p => V.ref p.1), rfl, .inl ⟨sq_lst hp4, sq_lst hb2, fun D nD => lc_zip (as.zip ts) ((as.zip ts).drop 1) (fun p => V.ref p.1) (fun p => V.ref p.1) (L2.walk_zip rfl) (by rw [List.length_map, List.length_map]) (fun x y => some (.bl (decide (x.2.e0 < y.2.b0)))) (fun H' => Ex H4 H') (fun H' z e => ex_mut e nD) (.refl _) (by omega) (fun H' e => ⟨sq_lst (e _ _ hp4), sq_lst (e _ _ hb2)⟩) (fun i x y u H5 acc N hx hy X5 nu hD la k => ?_) fun H5 X5 d5 => ?_⟩⟩
    · have hD2 := fun o => ex_new (o := o) nu _ _ hD
      have Z := X5.trans (ex_new (o := .tup [.ref x.1, .ref y.1]) nu)
      rw [List.getElem?_drop] at hy
      obtain ⟨hx1, hx2⟩ := List.getElem?_zip_eq_some.mp hx
      obtain ⟨hy1, hy2⟩ := List.getElem?_zip_eq_some.mp hy
      have gx : DtAt H4 x.2 x.1 := by
        obtain ⟨t, ht, h⟩ := hA4.get hx1
        rw [hx2] at ht
        cases ht
        exact h
      have gy : DtAt H4 y.2 y.1 := by
        obtain ⟨t, ht, h⟩ := hA4.get hy1
        rw [hy2] at ht
        cases ht
        exact h
      have mx := List.mem_of_getElem? hx2
      have my := List.mem_of_getElem? hy2
      have nx := nestL_mem mx
      have ny := nestL_mem my
      refine ⟨u, _, rfl, sq_tup upd_same, rfl, _, _, rfl, _, _, rfl, rfl, rfl, ?_⟩
      refine ⟨_, rfl, x.1, x.2, rfl, gx.mono Z, by omega, wk_nz (wkL_mem hok mx), fitL_mem hf mx, ?_⟩
      refine ⟨_, rfl, y.1, y.2, rfl, gy.mono Z, by omega, wk_nz (wkL_mem hok my), ?_⟩
      refine ⟨_, _, rfl, rfl, acc, hD2 _, la, ?_⟩
      have ei : decide (((x.2.e0 : Nat) : Int) < ((y.2.b0 : Nat) : Int)) = decide (x.2.e0 < y.2.b0) := decide_eq_decide.mpr ⟨fun z => by omega, fun z => by omega⟩
      show N (upd (upd H5 u (.tup [.ref x.1, .ref y.1])) D (.lst (acc ++ [.bl (decide (((x.2.e0 : Nat) : Int) < ((y.2.b0 : Nat) : Int)))])))
      rw [ei]
      exact k _ Z (hD2 _)
    · have ef : ((as.zip ts).zip ((as.zip ts).drop 1)).filterMap (fun p => some (V.bl (decide (p.1.2.e0 < p.2.2.b0)))) = ((ts.zip (ts.drop 1)).map fun p => decide (p.1.e0 < p.2.b0)).map V.bl := by
        rw [List.filterMap_eq_map', List.map_map]
        conv => rhs; rw [← hz2, ← List.map_drop, List.zip_map, List.map_map]
        rfl
      rw [ef] at d5
      refine ⟨D, _, rfl, sq_lst d5, ?_⟩
      rw [List.all_map]
      have X45 := X4.trans X5
      have er : (ts.zip (ts.drop 1)).all (id ∘ fun p => decide (p.1.e0 < p.2.b0)) = ris0 ts := rfl
      rw [er]
      refine ⟨_, rfl, _, rfl, ite2 (fun c => ?_) (fun c => ?_)⟩
      · refine ⟨_, rfl, p, as, ts, rfl, .inl (X5 _ _ (X4 _ _ hp)), hA4.mono X5, by omega, hok, hl, hpc, fun H6 X6 => ?_⟩
        refine ⟨_, _, rfl, rfl, ?_⟩
        have e9 : isR0 ts = decide (((n0L ts : Nat) : Int) ≤ 1440) := by
          unfold isR0
          rw [c, Bool.true_and]
          exact decide_eq_decide.mpr ⟨fun z => by omega, fun z => by omega⟩
        rw [e9] at q
        exact q _ (X45.trans X6)
      · have e9 : isR0 ts = false := by
          unfold isR0
          rw [Bool.eq_false_iff.mpr c, Bool.false_and]
        rw [e9] at q
        exact q _ X45
theorem ok__law_is_row {P : Program} {w : World} {K : PySem.W.Frag} {mg : Str → Option Value} {base : Heap} (T : Env K mg) : Fc P w K mg base 62 (He.ga K "_law_is_row") [] (sp__law_is_row K ) := by
  obtain ⟨fd, D, F⟩ := fb__law_is_row T
  exact F.all (D.bindsN fun _ _ _ _ _ _ us hl => match us, hl with | [_], _ => rfl)
end
section
def onV : Option Nat → V
  | some n => .int (n : Nat)
  | none => .non
def sp__law_number (K : PySem.W.Frag) : Sp := fun vs H Q _ => ∃ l : List Nat, vs = [.str (SX.S l)] ∧ l.length ≤ 600 ∧ ∀ H', Ex H H' → Q (onV (Mo.num? l)) H'
theorem fb__law_number {P : Program} {w : World} {K : PySem.W.Frag} {mg : Str → Option Value} {base : Heap} (T : Env K mg) : ∃ fd, FunD K "_law_number" "_law_number" (defArgs s__law_number) (defBody s__law_number) (defScope s__law_number) [] [] (He.ga K "_law_number") fd ∧ Fb P w K mg base 1 (He.ga K "_law_number") fd ["_law_word_here"] (sp__law_number K) := by
  obtain ⟨fd, F⟩ := T.f__law_number
  refine ⟨fd, F, fb_of F sc__law_number (fun vs H Q E h => ?_) (fun cdv A outer s H vs Q E hr h => ?_)⟩
  · obtain ⟨l, rfl, _⟩ := h
    rfl
  · obtain ⟨l, rfl, hl, q⟩ := h
    refine ⟨_, (pss_cons (ps_if (PW.pt (pw_or (pt_cmpR op_eq (pv 0) pe_str (nomark _)) (pw_or1 (pt_not (pt_val (pe_callB (cr_all rfl) (by rfl) T.n_all (by decide +kernel) (pa_cons (pe_lc (own := [("_law_sign", 1)]) (by rfl) sc__law_number.nd (pi_str (pv 0)) (blkOk_by (own := [("_law_sign", 1)]) (N := ["_law_word_here", "_law_sign"]) (sc := defScope s__law_number) (by decide +kernel)) (fun _ _ _ _ _ => (pg_name (i := 1) sc__law_number.nd rfl (Or.inl rfl))) (fun _ _ _ _ _ => pts_nil) (fun _ _ _ _ _ => (pe_cmpR op_in_sign (pv 1) pe_str (by rfl)))) pa_nil)))))))
      (pss_one (ps_ret pe_non))
      pss_nil)
      (pss_cons (ps_if (PW.pt (pw_and (pt_cmpR op_eq (pe_ix ix_str (pv 0) pe_int (fun _ _ => rfl)) pe_str (nomark _)) (pw_and1 (pt_cmpR op_ne (pv 0) pe_str (nomark _)))))
      (pss_one (ps_ret pe_non))
      pss_nil)
      (pss_one (ps_ret (pe_callTy call_int_str (by rfl) T.n_int (by decide +kernel) (pa_cons (pv 0) pa_nil)))))), ?_⟩
    have ls : (SX.S l).length ≤ sizeLine := Nat.le_of_lt (small_len (by rw [SX.S_len]; omega))
    refine ⟨_, rfl, rfl, _, rfl, ?_⟩
    by_cases h0 : l = []
    · subst h0
      exact ifP rfl (iteT (q H (.refl H)))
    refine ifN (fun z => h0 (by injection z with z; exact SX.S_inj z)) ?_
    refine ⟨_, rfl, _, rfl, fun D nD => lc_fm L2.walk_str (fun i => some (.bl (Mo.isFig (l.getD i 0)))) (fun H' => Ex H H') (fun H' z e => ex_mut e nD) (.refl H) (by show l.toArray.size ≤ 100000; simp; omega) (fun _ _ => trivial) (fun i x H1 H2 acc N hi e hD la y k => ?_) fun H1 e1 d1 => ?_⟩
    · obtain ⟨rfl, c, hc, rfl⟩ := y
      refine ⟨rfl, _, rfl, c, _, rfl, rfl, acc, hD, la, ?_⟩
      rw [fig_in]
      have e2 : l.getD i 0 = c := by
        have hc2 : l[i]? = some c := by simpa using hc
        rw [List.getD_eq_getElem?_getD, hc2]
        rfl
      have k2 := k H2 e hD
      rw [e2] at k2
      exact k2
    have hd : H1 D = some (.lst ((l.map Mo.isFig).map V.bl)) := by
      rw [d1]
      have e3 := range_map_get l 0 (fun c => V.bl (Mo.isFig c))
      have e4 : l.toArray.size = l.length := by simp
      show some (HO.lst (List.filterMap _ (List.range l.toArray.size))) = _
      rw [e4, e3, List.map_map]
      rfl
    refine ⟨D, l.map Mo.isFig, rfl, sq_lst hd, ?_⟩
    have e5 : (l.map Mo.isFig).all id = Mo.figs l := by
      unfold Mo.figs
      rw [List.all_map]
      cases l with
      | nil => exact absurd rfl h0
      | cons a r => rfl
    rw [e5]
    refine ⟨_, rfl, ?_⟩
    cases hf : Mo.figs l with
    | false =>
      have z := q H1 e1
      rw [show Mo.num? l = none by unfold Mo.num?; rw [hf]; rfl] at z
      exact iteT z
    | true =>
      refine iteF ?_
      obtain ⟨_, hdg⟩ := Mo.figs_iff.mp hf
      cases l with
      | nil => exact absurd rfl h0
      | cons a r =>
        have en : Mo.num? (a :: r) = if !(decide (1 < (a :: r).length) && (a :: r).head? == some 48) then some (Mo.val (a :: r)) else none := by
          unfold Mo.num?
          rw [hf, Bool.true_and]
        have z := q H1 e1
        rw [en] at z
        have fin : (!(decide (1 < (a :: r).length) && (a :: r).head? == some 48)) = true → Q (.int (Mo.val (a :: r) : Nat)) H1 := fun h => by
          rw [if_pos h] at z
          exact z
        have bad : (decide (1 < (a :: r).length) && (a :: r).head? == some 48) = true → Q .non H1 := fun h => by
          rw [h] at z
          exact z
        have ev := SX.int_S (Mo.all_fig hdg) h0 (by omega)
        refine ⟨_, rfl, _, _, a, rfl, rfl, ls, (show atI (a :: r) ((0 : Nat) : Int) = some a from atI_nat rfl), ?_⟩
        refine ⟨rfl, _, rfl, ?_⟩
        by_cases h48 : a = 48
        · subst h48
          refine ifP rfl ?_
          refine ⟨_, rfl, rfl, _, rfl, ?_⟩
          by_cases hr : r = []
          · subst hr
            refine iteF ?_
            exact ⟨_, rfl, _, _, rfl, ev, by rw [SX.S_len]; omega, fin rfl⟩
          · have hl2 : 1 < (48 :: r).length := by
              cases r with
              | nil => exact absurd rfl hr
              | cons b t => simp
            rw [decide_eq_false (show ¬ V.str (SX.S (48 :: r)) = V.str (Str.ofString "0") from fun y => hr (by injection y with y; have z : 48 :: r = [48] := SX.S_inj y; injection z))]
            exact iteT (bad (by rw [decide_eq_true hl2]; rfl))
        · refine ifN (fun y => h48 (by injection y with y; have z : [a] = [48] := SX.S_inj y; injection z)) ?_
          have : ((a :: r).head? == some 48) = false := by simpa using h48
          exact ⟨_, rfl, _, _, rfl, ev, by rw [SX.S_len]; omega, fin (by rw [this, Bool.and_false]; rfl)⟩
theorem ok__law_number {P : Program} {w : World} {K : PySem.W.Frag} {mg : Str → Option Value} {base : Heap} (T : Env K mg) : Fc P w K mg base 1 (He.ga K "_law_number") [] (sp__law_number K ) := by
  obtain ⟨fd, D, F⟩ := fb__law_number T
  exact F.all (D.bindsN fun _ _ _ _ _ _ us hl => match us, hl with | [_], _ => rfl)
end
section
def sp__law_at_in (K : PySem.W.Frag) : Sp := fun vs H Q _ => ∃ l : List Nat, vs = [.str (SX.S l)] ∧ l.length ≤ 600 ∧ (Mo.momOf l = none → ∀ H', Ex H H' → Q .non H') ∧ (∀ n, Mo.momOf l = some n → ∀ t H', Ex H H' → H t = none → H' t = some (.tup [.str "at", .int (n : Nat)]) → Q (.ref t) H')
def Mo_snoc (l W : List (List Nat)) (u : List Nat) : Prop := l = W ++ [u]
theorem Mo_snoc_of {l : List (List Nat)} (h : l ≠ []) : ∃ W u, Mo_snoc l W u := ⟨l.dropLast, l.getLast h, (List.dropLast_concat_getLast h).symm⟩
theorem num_one (x : Nat) : Mo.num? [x] = if Mo.isFig x = true then some (x - 48) else none := by
  unfold Mo.num? Mo.figs
  cases h : Mo.isFig x with
  | false =>
    simp [h]
  | true =>
    have hx := Mo.isFig_iff.mp h
    simp [h]
    show 0 * 10 + (x - 48) = x - 48
    omega
theorem clk_two {x y : Nat} {h : List Nat} {o : Option Nat} (e : o = if decide (([x, y] : List Nat).length = 2) && Mo.figs [x, y] then (match Mo.num? h with
    | some k => if k < 24 ∧ Mo.val [x, y] < 60 then some (k * 60 + Mo.val [x, y]) else none
    | none => none) else none) : o = match Mo.num? h, Mo.num? [x], Mo.num? [y] with
      | some k, some a, some b => if k < 24 ∧ a < 6 then some (k * 60 + (a * 10 + b)) else none
      | _, _, _ => none := by
  rw [e, num_one, num_one]
  have f : Mo.figs [x, y] = (Mo.isFig x && Mo.isFig y) := by
    unfold Mo.figs
    simp
  have v : Mo.val [x, y] = (x - 48) * 10 + (y - 48) := by
    show (0 * 10 + (x - 48)) * 10 + (y - 48) = _
    omega
  rw [f, v]
  cases Mo.num? h with
  | none =>
    split <;> rfl
  | some k =>
    cases hx : Mo.isFig x with
    | false => rfl
    | true =>
      cases hy : Mo.isFig y with
      | false => rfl
      | true =>
        have h1 := Mo.isFig_iff.mp hx
        have h2 := Mo.isFig_iff.mp hy
        show (if k < 24 ∧ _ < 60 then _ else _) = if k < 24 ∧ _ < 6 then _ else _
        by_cases c : k < 24 ∧ x - 48 < 6
        · rw [if_pos (by omega), if_pos c]
        · rw [if_neg (by omega), if_neg c]
theorem onV_flat (o : Option Nat) : flatV (onV o) = true := by
  cases o <;> rfl
theorem fb__law_at_in {P : Program} {w : World} {K : PySem.W.Frag} {mg : Str → Option Value} {base : Heap} (T : Env K mg) : ∃ fd, FunD K "_law_at_in" "_law_at_in" (defArgs s__law_at_in) (defBody s__law_at_in) (defScope s__law_at_in) [] [] (He.ga K "_law_at_in") fd ∧ Fb P w K mg base 2 (He.ga K "_law_at_in") fd ["_law_text_here"] (sp__law_at_in K) := by
  obtain ⟨fd, F⟩ := T.f__law_at_in
  refine ⟨fd, F, fb_of F sc__law_at_in (fun vs H Q E h => ?_) (fun cdv A outer s H vs Q E hr h => ?_)⟩
  · obtain ⟨l, rfl, _⟩ := h
    rfl
  · obtain ⟨l, rfl, hl, qn, q⟩ := h
    refine ⟨_, (pss_cons (ps_set (i := 1) sc__law_at_in.nd rfl (Or.inl rfl) (pe_split (pv 0) pe_str))
      (pss_cons (ps_set (i := 2) sc__law_at_in.nd rfl (Or.inl rfl) (pe_split (pe_ix ix_list (pv 1) (pe_un un_neg pe_int) (fun _ _ => rfl)) pe_str))
      (pss_cons (ps_if (PW.pt (pw_or (pt_cmpR op_gt (pe_callB call_len (by rfl) T.n_len (by decide +kernel) (pa_cons (pv 1) pa_nil)) pe_int (nomark _)) (pw_or (pt_cmpR op_ne (pe_callB call_len (by rfl) T.n_len (by decide +kernel) (pa_cons (pv 2) pa_nil)) pe_int (nomark _)) (pw_or1 (pt_cmpR op_ne (pe_callB call_len (by rfl) T.n_len (by decide +kernel) (pa_cons (pe_ix ix_list (pv 2) pe_int (fun _ _ => rfl)) pa_nil)) pe_int (nomark _))))))
      (pss_one (ps_ret pe_non))
      pss_nil)
      (pss_cons (ps_set (i := 3) sc__law_at_in.nd rfl (Or.inl rfl) (c_call (ok__law_number T) (hr.mono (by decide)) T.g__law_number T.k__law_number takes0 (pa_cons (pe_ix ix_list (pv 2) pe_int (fun _ _ => rfl)) pa_nil)))
      (Evl.pss_cut (ps_setLc (i := 4) (own := [("_law_sign", 6)]) (by rfl) sc__law_at_in.nd rfl rfl (sw_true rfl rfl rfl (by decide +kernel)) (pi_str (pe_ix ix_list (pv 2) pe_int (fun _ _ => rfl))) (blkOk_by (own := [("_law_sign", 6)]) (N := ["_law_text_here", "_law_words", "_law_clock", "_law_hour", "_law_minutes", "_law_day", "_law_sign"]) (sc := defScope s__law_at_in) (by decide +kernel)) (fun _ _ _ _ _ => (pg_name (i := 6) sc__law_at_in.nd rfl (Or.inl rfl))) (fun _ _ _ _ _ => pts_nil) (fun _ _ _ _ _ => (c_call (ok__law_number T) (hr.mono (by decide)) T.g__law_number T.k__law_number takes0 (pa_cons (pv 6) pa_nil))))
      (pss_cons (ps_set (i := 5) sc__law_at_in.nd rfl (Or.inl rfl) pe_int)
      (Evl.pss_cut (ps_if (pt_cmpR op_eq (pe_callB call_len (by rfl) T.n_len (by decide +kernel) (pa_cons (pv 1) pa_nil)) pe_int (nomark _))
      (pss_one (ps_set (i := 5) sc__law_at_in.nd rfl (Or.inl rfl) (c_call (ok__law_number T) (hr.mono (by decide)) T.g__law_number T.k__law_number takes0 (pa_cons (pe_ix ix_list (pv 1) pe_int (fun _ _ => rfl)) pa_nil))))
      pss_nil)
      (pss_cons (ps_if (PW.pt (pw_or (pt_cmpR op_in_seq pe_non (pe_op op_cat (pe_lst (pa_cons (pv 3) (pa_cons (pv 5) pa_nil))) (pv 4)) (by rfl)) (pw_or (pt_cmpR op_gt (pv 3) pe_int (nomark _)) (pw_or1 (pt_cmpR op_gt (pe_ix ix_list (pv 4) pe_int (fun _ _ => rfl)) pe_int (nomark _))))))
      (pss_one (ps_ret pe_non))
      pss_nil)
      (pss_cons (ps_if (PW.pt (pw_and (pt_cmpR op_eq (pe_callB call_len (by rfl) T.n_len (by decide +kernel) (pa_cons (pv 1) pa_nil)) pe_int (nomark _)) (pw_and1 (pt_cmpR op_eq (pv 5) pe_int (nomark _)))))
      (pss_one (ps_ret pe_non))
      pss_nil)
      (pss_one (ps_ret (pe_tup (pa_cons pe_str (pa_cons (pe_op op_add (pe_op op_add (pe_op op_add (pe_op op_mul pe_int (pv 5)) (pe_op op_mul pe_int (pv 3))) (pe_op op_mul pe_int (pe_ix ix_list (pv 4) pe_int (fun _ _ => rfl)))) (pe_ix ix_list (pv 4) pe_int (fun _ _ => rfl))) pa_nil)))))))))))))), ?_⟩
    have ls : (SX.S l).length + 2 ≤ sizeLine := Nat.le_of_lt (small_len (by rw [SX.S_len]; omega))
    refine ⟨_, rfl, ⟨_, rfl⟩, _, _, rfl, rfl, rfl, ls, fun wa nw => ?_⟩
    rw [show Str.ofString " " = SX.S [32] from rfl, SX.split_S (by decide) (by decide)]
    obtain ⟨wl, wn⟩ := Mo.spl_le 32 l.length l (Nat.le_refl _)
    obtain ⟨W, u, eW, huL⟩ : ∃ W u, TL.spl [32] 0 [] l = W ++ [u] ∧ u.length ≤ l.length := by
      obtain ⟨W, u, e⟩ := Mo_snoc_of (Mo.spl_ne [32] 0 [] l)
      exact ⟨W, u, e, wl u (by rw [show TL.spl [32] 0 [] l = W ++ [u] from e]; simp)⟩
    have hM : (W = [] ∧ Mo.momOf l = Mo.clkOf u) ∨ (∃ h0, W = [h0] ∧ h0.length ≤ 600 ∧ Mo.momOf l = match Mo.dayOf h0 with
        | none => none
        | some d => (Mo.clkOf u).map fun m => d * 1440 + m) ∨ (2 ≤ W.length ∧ Mo.momOf l = none) := by
      rcases Mo.words_of l with ⟨hc, hw⟩ | ⟨h, t, hc, hw⟩ | ⟨hm, hw⟩
      · have e := eW.symm.trans hw
        cases W with
        | nil =>
          injection e with e
          refine .inl ⟨rfl, ?_⟩
          rw [e]
          unfold Mo.momOf
          rw [hc]
        | cons a r => simp at e
      · have e := eW.symm.trans hw
        have hh : h.length ≤ l.length := wl h (by rw [hw]; simp)
        match W, e with
        | [a], e =>
          injection e with e1 e2
          injection e2 with e2
          refine .inr (.inl ⟨a, rfl, by rw [e1]; omega, ?_⟩)
          rw [e1, e2]
          unfold Mo.momOf
          rw [hc]
          all_goals (cases Mo.dayOf h <;> rfl)
        | [], e => simp at e
        | a :: b :: r, e => simp at e
      · refine .inr (.inr ⟨?_, hm⟩)
        rw [eW] at hw
        simp at hw
        omega
    rw [eW]
    have X1 := ex_new (o := HO.lst (((W ++ [u]).map SX.S).map V.str)) nw
    have w1 : upd H wa (HO.lst (((W ++ [u]).map SX.S).map V.str)) wa = some (HO.lst (((W ++ [u]).map SX.S).map V.str)) := upd_same
    generalize upd H wa (HO.lst (((W ++ [u]).map SX.S).map V.str)) = H1 at X1 w1 ⊢
    have us : (SX.S u).length + 2 ≤ sizeLine := Nat.le_of_lt (small_len (by rw [SX.S_len]; omega))
    refine ⟨_, rfl, _, rfl, wa, _, _, .str (SX.S u), rfl, rfl, sq_lst w1, (by rw [List.map_append, List.map_append]; exact atI_last _ _), ⟨_, rfl⟩, _, _, rfl, rfl, rfl, us, fun pa np => ?_⟩
    rw [show Str.ofString ":" = SX.S [58] from rfl, SX.split_S (by decide) (by decide)]
    have X2 := ex_new (o := HO.lst (((TL.spl [58] 0 [] u).map SX.S).map V.str)) np
    have p1 : upd H1 pa (HO.lst (((TL.spl [58] 0 [] u).map SX.S).map V.str)) pa = some (HO.lst (((TL.spl [58] 0 [] u).map SX.S).map V.str)) := upd_same
    generalize upd H1 pa (HO.lst (((TL.spl [58] 0 [] u).map SX.S).map V.str)) = H2 at X2 p1 ⊢
    have w2 := X2 _ _ w1
    have X02 := X1.trans X2
    refine ⟨_, rfl, _, (W ++ [u]).length, rfl, .inl ⟨_, sq_lst w2, by simp⟩, _, _, rfl, rfl, _, rfl, ?_⟩
    by_cases c2 : 2 ≤ W.length
    · refine ifP (by simp; omega) (iteT ?_)
      refine qn ?_ H2 X02
      rcases hM with ⟨z, _⟩ | ⟨h0, z, _⟩ | ⟨_, z⟩
      · rw [z] at c2
        simp at c2
      · rw [z] at c2
        simp at c2
      · exact z
    refine ifN (by simp; omega) ?_
    have lW : (W ++ [u]).length ≤ 2 := by simp; omega
    rcases Mo.parts_of u with ⟨h, m, hp, hlen, hc⟩ | ⟨hc, hp⟩
    · rw [hp] at p1
      refine ⟨_, rfl, _, 2, rfl, .inl ⟨_, sq_lst p1, rfl⟩, rfl, _, rfl, iteF ?_⟩
      have ms : (SX.S m).length ≤ sizeLine := Nat.le_of_lt (small_len (by rw [SX.S_len]; omega))
      refine ⟨_, rfl, pa, _, _, _, rfl, rfl, sq_lst p1, rfl, _, m.length, rfl, ⟨ms, (SX.S_len m).symm⟩, rfl, _, rfl, ?_⟩
      have no : Mo.clkOf u = none → Mo.momOf l = none := fun z => by
        rcases hM with ⟨_, e⟩ | ⟨h0, _, _, e⟩ | ⟨_, e⟩
        · rw [e, z]
        · rw [e, z]
          cases Mo.dayOf h0 <;> rfl
        · exact e
      by_cases h2 : m.length = 2
      · rw [decide_eq_true (show V.int (m.length : Int) = V.int 2 by rw [h2]; rfl)]
        refine iteF ?_
        obtain ⟨x, y, rfl⟩ : ∃ x y, m = [x, y] := by
          match m, h2 with
          | [x, y], _ => exact ⟨x, y, rfl⟩
        have hc := clk_two hc
        refine ⟨_, rfl, pa, _, _, _, rfl, rfl, sq_lst p1, rfl, h, rfl, by omega, fun H4 e4 => ?_⟩
        have p4 := e4 _ _ p1
        have w4 := e4 _ _ w2
        have X4 := X02.trans e4
        refine ⟨fun σ' H' => Ex H H' ∧ ∃ ma, σ' = [some (.str (SX.S l)), some (.ref wa), some (.ref pa), some (onV (Mo.num? h)), some (.ref ma), none, none] ∧ H' wa = some (.lst (((W ++ [u]).map SX.S).map V.str)) ∧ H' ma = some (.lst [onV (Mo.num? [x]), onV (Mo.num? [y])]), ?_, ?_⟩
        · refine ⟨_, rfl, pa, _, _, _, rfl, rfl, sq_lst p4, rfl, _, rfl, fun D nD => lc_fm L2.walk_str (fun i => some (onV (Mo.num? [([x, y] : List Nat).getD i 0]))) (fun H' => Ex H4 H') (fun H' z e => ex_mut e nD) (.refl H4) (by show ([x, y] : List Nat).toArray.size ≤ 100000; simp) (fun _ _ => trivial) (fun i z H5 H6 acc N hi e hD la yy k => ?_) fun H5 e5 d5 => ?_⟩
          · obtain ⟨rfl, c, hc, rfl⟩ := yy
            have e2 : ([x, y] : List Nat).getD i 0 = c := by
              have hc2 : ([x, y] : List Nat)[i]? = some c := by simpa using hc
              rw [List.getD_eq_getElem?_getD, hc2]
              rfl
            refine ⟨rfl, _, rfl, [c], rfl, by show 1 ≤ 600; decide, fun H7 e7 => ?_⟩
            have k2 := k H7 (e.trans e7) (e7 _ _ hD)
            rw [e2] at k2
            exact ⟨acc, e7 _ _ hD, la, k2⟩
          · exact ⟨X4.trans e5, D, rfl, e5 _ _ w4, d5⟩
        rintro σ' H5 ⟨X5, ma, rfl, w5, m5⟩
        refine ⟨fun σ' H' => Ex H H' ∧ ∃ od : Option Nat, σ' = [some (.str (SX.S l)), some (.ref wa), some (.ref pa), some (onV (Mo.num? h)), some (.ref ma), some (onV od), none] ∧ H' wa = some (.lst (((W ++ [u]).map SX.S).map V.str)) ∧ H' ma = some (.lst [onV (Mo.num? [x]), onV (Mo.num? [y])]) ∧ ((W = [] ∧ od = some 0) ∨ ∃ h0, W = [h0] ∧ od = Mo.num? h0), ?_, ?_⟩
        · refine ⟨_, rfl, _, _, rfl, .inl ⟨_, sq_lst w5, rfl⟩, rfl, _, rfl, ?_⟩
          rcases hM with ⟨z, _⟩ | ⟨h0, z, z2, _⟩ | ⟨z, _⟩
          · subst z
            exact iteF ⟨X5, some 0, rfl, w5, m5, .inl ⟨rfl, rfl⟩⟩
          · subst z
            refine iteT ⟨_, rfl, wa, _, _, _, rfl, rfl, sq_lst w5, rfl, h0, rfl, by omega, fun H6 e6 => ?_⟩
            exact ⟨X5.trans e6, Mo.num? h0, rfl, e6 _ _ w5, e6 _ _ m5, .inr ⟨h0, rfl, rfl⟩⟩
          · omega
        rintro σ' H6 ⟨X6, od, rfl, w6, m6, hod⟩
        refine ⟨_, rfl, _, rfl, by show 2 ≤ sizeLine; decide, fun a2 na2 => ?_⟩
        have Xa := ex_new (o := HO.lst [onV (Mo.num? h), onV od]) na2
        have ha : upd H6 a2 (HO.lst [onV (Mo.num? h), onV od]) a2 = some (HO.lst [onV (Mo.num? h), onV od]) := upd_same
        generalize upd H6 a2 (HO.lst [onV (Mo.num? h), onV od]) = H7 at Xa ha ⊢
        refine ⟨_, rfl, a2, ma, _, _, rfl, rfl, ha, Xa _ _ m6, by show 4 ≤ sizeLine; decide, fun a3 na3 => ?_⟩
        have Xb := ex_new (o := HO.lst ([onV (Mo.num? h), onV od] ++ [onV (Mo.num? [x]), onV (Mo.num? [y])])) na3
        have hb : upd H7 a3 (HO.lst ([onV (Mo.num? h), onV od] ++ [onV (Mo.num? [x]), onV (Mo.num? [y])])) a3 = some (HO.lst ([onV (Mo.num? h), onV od] ++ [onV (Mo.num? [x]), onV (Mo.num? [y])])) := upd_same
        generalize upd H7 a3 (HO.lst ([onV (Mo.num? h), onV od] ++ [onV (Mo.num? [x]), onV (Mo.num? [y])])) = H8 at Xb hb ⊢
        have X8 := (X6.trans Xa).trans Xb
        have w8 := Xb _ _ (Xa _ _ w6)
        have m8 := Xb _ _ (Xa _ _ m6)
        refine ⟨a3, _, rfl, .inl (sq_lst hb), rfl, by simp [onV_flat], _, rfl, ?_⟩
        cases h1 : Mo.num? h with
        | none => exact iteT (qn (no (by rw [hc, h1])) H8 X8)
        | some k =>
        cases h2 : od with
        | none =>
          refine iteT (qn ?_ H8 X8)
          rcases hod with ⟨_, z⟩ | ⟨h0, z, z2⟩
          · rw [h2] at z
            cases z
          · rcases hM with ⟨e, _⟩ | ⟨h0', e, _, e2⟩ | ⟨e, _⟩
            · rw [e] at z
              cases z
            · rw [e] at z
              cases z
              rw [e2, show Mo.dayOf h0 = none by unfold Mo.dayOf; rw [← z2, h2]]
            · omega
        | some d =>
        cases h3 : Mo.num? [x] with
        | none => exact iteT (qn (no (by rw [hc, h1, h3])) H8 X8)
        | some a =>
        cases h4 : Mo.num? [y] with
        | none => exact iteT (qn (no (by rw [hc, h1, h3, h4])) H8 X8)
        | some b =>
        refine iteF ?_
        rw [h1, h3, h4] at hc
        have hc : Mo.clkOf u = if k < 24 ∧ a < 6 then some (k * 60 + (a * 10 + b)) else none := hc
        refine ⟨_, rfl, _, _, rfl, rfl, _, rfl, ?_⟩
        by_cases c1 : 23 < k
        · refine ifP (by omega) (iteT (qn (no ?_) H8 X8))
          rw [hc, if_neg (by omega)]
        refine ifN (by omega) ?_
        rw [h3, h4] at m8
        refine ⟨_, rfl, ma, _, _, _, rfl, rfl, sq_lst m8, rfl, _, _, rfl, rfl, _, rfl, ?_⟩
        by_cases c2 : 5 < a
        · refine ifP (by omega) (qn (no ?_) H8 X8)
          rw [hc, if_neg (by omega)]
        refine ifN (by omega) ?_
        rw [if_pos (by omega)] at hc
        rw [h2] at hod
        have eN : ∀ n : Nat, n = 1440 * d + (k * 60 + (a * 10 + b)) → V.int ((n : Nat) : Int) = V.int ((1440 : Int) * ((d : Nat) : Int) + (60 : Int) * ((k : Nat) : Int) + (10 : Int) * ((a : Nat) : Int) + ((b : Nat) : Int)) := fun n e => congrArg V.int (by omega)
        refine ⟨_, rfl, _, _, rfl, .inl ⟨_, sq_lst w8, rfl⟩, rfl, _, rfl, ?_⟩
        rcases hod with ⟨z, zd⟩ | ⟨h0, z, z2⟩
        · subst z
          refine iteF ?_
          have hm : Mo.momOf l = some (k * 60 + (a * 10 + b)) := by
            rcases hM with ⟨_, e⟩ | ⟨h0, e, _⟩ | ⟨e, _⟩
            · rw [e, hc]
            · cases e
            · simp at e
          injection zd with zd
          subst zd
          refine ⟨_, rfl, _, _, rfl, rfl, .inl ⟨by decide, by decide⟩, _, rfl, _, _, rfl, rfl, .inl ⟨by decide, by decide⟩, _, _, rfl, rfl, _, rfl, ma, _, _, _, rfl, rfl, sq_lst m8, rfl, _, _, rfl, rfl, .inl ⟨by decide, by decide⟩, _, _, rfl, rfl, _, rfl, ma, _, _, _, rfl, rfl, sq_lst m8, rfl, _, _, rfl, rfl, by show 2 ≤ sizeLine; decide, fun t nt => ?_⟩
          refine q _ hm t _ (X8.trans (ex_new nt)) (ex_fresh X8 nt) ?_
          rw [eN _ (by omega)]
          exact upd_same
        · subst z
          refine iteT ⟨_, rfl, rfl, _, rfl, ?_⟩
          have hm : Mo.momOf l = match Mo.dayOf h0 with
              | none => none
              | some d => some (d * 1440 + (k * 60 + (a * 10 + b))) := by
            rcases hM with ⟨e, _⟩ | ⟨h0', e, _, e2⟩ | ⟨e, _⟩
            · cases e
            · cases e
              rw [e2, hc]
              rfl
            · simp at e
          cases d with
          | zero =>
            refine iteT (qn ?_ H8 X8)
            rw [hm, show Mo.dayOf h0 = none by unfold Mo.dayOf; rw [← z2]; rfl]
          | succ d =>
            refine ifN (by intro z; injection z with z; omega) ?_
            rw [show Mo.dayOf h0 = some (d + 1) by unfold Mo.dayOf; rw [← z2]; rfl] at hm
            refine ⟨_, rfl, _, _, rfl, rfl, .inl ⟨by decide, by decide⟩, _, rfl, _, _, rfl, rfl, .inl ⟨by decide, by decide⟩, _, _, rfl, rfl, _, rfl, ma, _, _, _, rfl, rfl, sq_lst m8, rfl, _, _, rfl, rfl, .inl ⟨by decide, by decide⟩, _, _, rfl, rfl, _, rfl, ma, _, _, _, rfl, rfl, sq_lst m8, rfl, _, _, rfl, rfl, by show 2 ≤ sizeLine; decide, fun t nt => ?_⟩
            refine q _ hm t _ (X8.trans (ex_new nt)) (ex_fresh X8 nt) ?_
            rw [eN _ (by omega)]
            exact upd_same
      · rw [decide_eq_false (show ¬ V.int (m.length : Int) = V.int 2 from fun z => h2 (by injection z with z; omega))]
        refine iteT (qn (no ?_) H2 X02)
        rw [hc, decide_eq_false h2]
        rfl
    · refine ⟨_, rfl, _, _, rfl, .inl ⟨_, sq_lst p1, rfl⟩, rfl, _, rfl, ?_⟩
      rw [List.length_map, List.length_map, decide_eq_false (show ¬ V.int (((TL.spl [58] 0 [] u).length : Nat) : Int) = V.int 2 from fun z => hp (by injection z with z; omega))]
      refine iteT (qn ?_ H2 X02)
      rcases hM with ⟨_, e⟩ | ⟨h0, _, _, e⟩ | ⟨_, e⟩
      · rw [e, hc]
      · rw [e, hc]
        cases Mo.dayOf h0 <;> rfl
      · exact e
theorem ok__law_at_in {P : Program} {w : World} {K : PySem.W.Frag} {mg : Str → Option Value} {base : Heap} (T : Env K mg) : Fc P w K mg base 2 (He.ga K "_law_at_in") [] (sp__law_at_in K ) := by
  obtain ⟨fd, D, F⟩ := fb__law_at_in T
  exact F.all (D.bindsN fun _ _ _ _ _ _ us hl => match us, hl with | [_], _ => rfl)
end
section
def lovWords : List (List Nat) → Option (Nat × Nat)
  | [w0, w1, w2] => if w0 = [] ∧ w1.take 1 = [120] ∧ w2.take 1 = [43] then (match Mo.num? (w1.drop 1), Mo.num? (w2.drop 1) with
    | some m, some s => some (m, s)
    | _, _ => none) else none
  | _ => none
theorem lovW3 (w0 w1 w2 : List Nat) : lovWords [w0, w1, w2] = if w0 = [] ∧ w1.take 1 = [120] ∧ w2.take 1 = [43] then (match Mo.num? (w1.drop 1), Mo.num? (w2.drop 1) with
    | some m, some s => some (m, s)
    | _, _ => none) else none := rfl
def lovIn (ps : List Tr) (l : List Nat) : Option Tr := match lovWords (TL.spl [32] 0 [] l) with
  | some (m, s) => if 2 ≤ m ∧ isR0 ps = true ∧ e0L ps < s + b0L ps then some (.ov ps m s) else none
  | none => none
/-- what stands at a place: an At, or what comes round the last row -/
def lshort (c : Nat) (w : List Nat) (st : List (List Tr)) : Option Tr :=
  if c = 41 then (match st with
    | top :: _ :: _ => lovIn top w
    | _ => none)
  else (Mo.momOf (c :: w)).map Tr.at
def lpop {α : Type} (c : Nat) (rs : List α) : List α := if c = 41 then rs.tail else rs
def RowD (H : Hp) (ts : List Tr) (r : Addr) : Prop := ∃ as, H r = some (.lst (as.map V.ref)) ∧ DtsAt H ts as
def RowsD (H : Hp) : List (List Tr) → List Addr → Prop
  | [], rs => rs = []
  | ts :: st, rs => ∃ r q, rs = r :: q ∧ RowD H ts r ∧ RowsD H st q
theorem RowD.keep {H H' : Hp} {ts : List Tr} {r : Addr} (e : ∀ b xs, H b = some (.tup xs) → H' b = some (.tup xs)) (h : RowD H ts r) (k : ∀ o, H r = some o → H' r = some o) : RowD H' ts r := by
  obtain ⟨as, h1, h2⟩ := h
  exact ⟨as, k _ h1, h2.keep e⟩
theorem RowsD.keep {H H' : Hp} (e : ∀ b xs, H b = some (.tup xs) → H' b = some (.tup xs)) : ∀ {st : List (List Tr)} {rs : List Addr}, RowsD H st rs → (∀ r ∈ rs, ∀ o, H r = some o → H' r = some o) → RowsD H' st rs
  | [], rs, h, _ => h
  | ts :: st, rs, h, k => by
    obtain ⟨r, q, rfl, h1, h2⟩ := h
    exact ⟨r, q, rfl, h1.keep e (k r List.mem_cons_self), RowsD.keep e h2 fun x hx => k x (List.mem_cons_of_mem _ hx)⟩
theorem RowsD.len {H : Hp} : ∀ {st : List (List Tr)} {rs : List Addr}, RowsD H st rs → rs.length = st.length
  | [], rs, h => by
    rw [show rs = [] from h]
    rfl
  | ts :: st, rs, h => by
    obtain ⟨r, q, rfl, _, h3⟩ := h
    rw [List.length_cons, List.length_cons, RowsD.len h3]
theorem RowsD.some {H : Hp} {r : Addr} : ∀ {st : List (List Tr)} {rs : List Addr}, RowsD H st rs → r ∈ rs → ∃ xs, H r = some (.lst xs)
  | [], rs, h, hr => by
    rw [show rs = [] from h] at hr
    cases hr
  | ts :: st, rs, h, hr => by
    obtain ⟨r', q, rfl, ⟨as, h1, _⟩, h3⟩ := h
    rcases List.mem_cons.mp hr with rfl | hr
    · exact ⟨_, h1⟩
    · exact RowsD.some h3 hr
/-- all but R is as it was -/
def Kpt (R : Addr) (H H' : Hp) : Prop := ∀ b o, b ≠ R → H b = some o → H' b = some o
theorem Kpt.tup {R : Addr} {H H' : Hp} {xs : List V} (k : Kpt R H H') (hR : H R = some (.lst xs)) : ∀ b ys, H b = some (.tup ys) → H' b = some (.tup ys) := fun b ys e => k b _ (fun z => by rw [z, hR] at e; cases e) e
theorem Kpt.rows {R : Addr} {H H' : Hp} {xs : List V} (k : Kpt R H H') (hR : H R = some (.lst xs)) {st : List (List Tr)} {rs : List Addr} (h : RowsD H st rs) (n : R ∉ rs) : RowsD H' st rs :=
  h.keep (k.tup hR) fun r hr o e => k r o (fun z => n (z ▸ hr)) e
def goodD (ts : List Tr) : Prop := wkL ts ∧ fitL ts ∧ nestL ts ≤ 9 ∧ ts.length ≤ 10000 ∧ pcsL ts ≤ 10000
end
section
def sp__law_over_in (K : PySem.W.Frag) : Sp := fun vs H Q _ => ∃ (p : Addr) (bs : List Addr) (ts : List Tr) (l : List Nat), vs = [.ref p, .str (SX.S l)] ∧ H p = some (.lst (bs.map V.ref)) ∧ DtsAt H ts bs ∧ ts ≠ [] ∧ nestL ts ≤ 9 ∧ wkL ts ∧ fitL ts ∧ ts.length ≤ 10000 ∧ pcsL ts ≤ 10000 ∧ l.length ≤ 600 ∧
  (lovIn ts l = none → ∀ H', Ex H H' → Q .non H') ∧ (∀ t, lovIn ts l = some t → ∀ a H', Ex H H' → H a = none → DtAt H' t a → Q (.ref a) H')
theorem fb__law_over_in {P : Program} {w : World} {K : PySem.W.Frag} {mg : Str → Option Value} {base : Heap} (T : Env K mg) : ∃ fd, FunD K "_law_over_in" "_law_over_in" (defArgs s__law_over_in) (defBody s__law_over_in) (defScope s__law_over_in) [] [] (He.ga K "_law_over_in") fd ∧ Fb P w K mg base 68 (He.ga K "_law_over_in") fd ["_law_row_here", "_law_tail"] (sp__law_over_in K) := by
  obtain ⟨fd, F⟩ := T.f__law_over_in
  refine ⟨fd, F, fb_of F sc__law_over_in (fun vs H Q E h => ?_) (fun cdv A outer s H vs Q E hr h => ?_)⟩
  · obtain ⟨p, bs, ts, l, rfl, _⟩ := h
    rfl
  · obtain ⟨p, as, ts, l, rfl, hp, hA, ne, hn, hok, hf, hlt, hpc, hl, qn, q⟩ := h
    refine ⟨_, (pss_cons (ps_set (i := 2) sc__law_over_in.nd rfl (Or.inl rfl) (pe_split (pv 1) pe_str))
      (pss_cons (ps_if (PW.pt (pw_or (pt_cmpR op_ne (pe_callB call_len (by rfl) T.n_len (by decide +kernel) (pa_cons (pv 2) pa_nil)) pe_int (nomark _)) (pw_or (pt_cmpR op_ne (pe_ix ix_list (pv 2) pe_int (fun _ _ => rfl)) pe_str (nomark _)) (pw_or (pt_cmpR op_ne (pe_slice sl_str (pe_ix ix_list (pv 2) pe_int (fun _ _ => rfl)) po_none (po_some pe_int)) pe_str (nomark _)) (pw_or1 (pt_cmpR op_ne (pe_slice sl_str (pe_ix ix_list (pv 2) pe_int (fun _ _ => rfl)) po_none (po_some pe_int)) pe_str (nomark _)))))))
      (pss_one (ps_ret pe_non))
      pss_nil)
      (pss_cons (ps_par (i := 3) (j := 4) (by rfl) sc__law_over_in.nd rfl rfl (by decide) rfl rfl (pa_cons (c_call (ok__law_number T) (hr.mono (by decide)) T.g__law_number T.k__law_number takes0 (pa_cons (pe_slice sl_str (pe_ix ix_list (pv 2) pe_int (fun _ _ => rfl)) (po_some pe_int) po_none) pa_nil)) (pa_cons (c_call (ok__law_number T) (hr.mono (by decide)) T.g__law_number T.k__law_number takes0 (pa_cons (pe_slice sl_str (pe_ix ix_list (pv 2) pe_int (fun _ _ => rfl)) (po_some pe_int) po_none) pa_nil)) pa_nil)) (by rfl))
      (pss_cons (ps_if (PW.pt (pw_or (pt_cmpR op_isN (pv 3) pe_non (nomark _)) (pw_or (pt_cmpR op_isN (pv 4) pe_non (nomark _)) (pw_or (pt_cmpR op_lt (pv 3) pe_int (nomark _)) (pw_or1 (pt_not (pt_val (c_call (ok__law_is_row T) (hr.mono (by decide)) T.g__law_is_row T.k__law_is_row takes0 (pa_cons (pv 0) pa_nil)))))))))
      (pss_one (ps_ret pe_non))
      pss_nil)
      (pss_cons (ps_if (pt_cmpR op_le (pv 4) (pe_op op_sub (c_call (all__law_end T 10) (hr.mono (by decide)) T.g__law_end T.k__law_end takes0 (pa_cons (pe_ix ix_list (pv 0) (pe_un un_neg pe_int) (fun _ _ => rfl)) pa_nil)) (c_call (all__law_begin T 10) (hr.mono (by decide)) T.g__law_begin T.k__law_begin takes0 (pa_cons (pe_ix ix_list (pv 0) pe_int (fun _ _ => rfl)) pa_nil))) (nomark _))
      (pss_one (ps_ret pe_non))
      pss_nil)
      (pss_one (ps_ret (pe_tup (pa_cons pe_str (pa_cons (pe_callTy call_tuple_of (by rfl) T.n_tuple (by decide +kernel) (pa_cons (pv 0) pa_nil)) (pa_cons (pv 3) (pa_cons (pv 4) pa_nil)))))))))))), ?_⟩
    refine ⟨_, rfl, ⟨_, rfl⟩, _, _, rfl, rfl, rfl, (sz_big (by rw [SX.S_len]; omega)), ?_⟩
    rw [show Str.ofString " " = SX.S [32] from rfl, SX.split_S (by decide) (by decide)]
    obtain ⟨wl, wn⟩ := Mo.spl_le 32 l.length l (Nat.le_refl _)
    unfold lovIn at q qn
    generalize TL.spl [32] 0 [] l = ws at wl wn q qn ⊢
    refine fun w nw => ?_
    have X1 := ex_new (o := .lst ((ws.map SX.S).map V.str)) nw
    have hw : upd H w (.lst ((ws.map SX.S).map V.str)) w = some (.lst ((ws.map SX.S).map V.str)) := upd_same
    have hp1 := X1 _ _ hp
    have hA1 := hA.mono X1
    generalize upd H w (.lst ((ws.map SX.S).map V.str)) = H1 at X1 hw hp1 hA1 ⊢
    refine ⟨_, rfl, _, _, rfl, .inl ⟨_, sq_lst hw, rfl⟩, rfl, _, rfl, ?_⟩
    by_cases c3 : ws.length = 3
    · refine ifnP (vint_eq (by simp [c3])) ?_
      obtain ⟨w0, w1, w2, rfl⟩ : ∃ a b c, ws = [a, b, c] := by
        match ws, c3 with
        | [a, b, c], _ => exact ⟨a, b, c, rfl⟩
      have l1 := wl w1 (by simp)
      have l2 := wl w2 (by simp)
      have g0 : atI ((List.map SX.S [w0, w1, w2]).map V.str) 0 = some (.str (SX.S w0)) := atI_nat (j := 0) rfl
      have g1 : atI ((List.map SX.S [w0, w1, w2]).map V.str) 1 = some (.str (SX.S w1)) := atI_nat (j := 1) rfl
      have g2 : atI ((List.map SX.S [w0, w1, w2]).map V.str) 2 = some (.str (SX.S w2)) := atI_nat (j := 2) rfl
      have s1 : (SX.S w1).length ≤ sizeLine := sz_big (by rw [SX.S_len]; omega)
      have s2 : (SX.S w2).length ≤ sizeLine := sz_big (by rw [SX.S_len]; omega)
      refine ⟨_, rfl, _, _, _, _, rfl, rfl, (sq_lst hw), rfl, rfl, _, rfl, ?_⟩
      try dsimp only [tNil]
      by_cases d0 : w0 = []
      · refine ifnP (by rw [d0]; rfl) ?_
        refine ⟨_, rfl, _, _, _, _, rfl, rfl, (sq_lst hw), rfl, _, rfl, _, rfl, s1, rfl, _, rfl, ?_⟩
        try dsimp only [tNil]
        rw [cut_one]
        by_cases d1 : w1.take 1 = [120]
        · refine ifnP (by rw [d1]; rfl) ?_
          refine ⟨_, rfl, _, _, _, _, rfl, rfl, (sq_lst hw), rfl, _, rfl, _, rfl, s2, rfl, _, rfl, ?_⟩
          try dsimp only [tNil]
          rw [cut_one]
          by_cases d2 : w2.take 1 = [43]
          · refine ifnP (by rw [d2]; rfl) ?_
            rw [lovW3, if_pos ⟨d0, d1, d2⟩] at q qn
            refine ⟨_, rfl, _, _, _, _, rfl, rfl, (sq_lst hw), rfl, _, rfl, _, rfl, s1, ?_⟩
            try dsimp only [tNil]
            rw [cut_rest]
            refine ⟨_, rfl, by rw [List.length_drop]; omega, fun H2 X2 => ?_⟩
            have X02 := X1.trans X2
            refine ⟨_, rfl, _, _, _, _, rfl, rfl, (sq_lst (X2 _ _ hw)), rfl, _, rfl, _, rfl, s2, ?_⟩
            try dsimp only [tNil]
            rw [cut_rest]
            refine ⟨_, rfl, by rw [List.length_drop]; omega, fun H3 X3 => ?_⟩
            have X03 := X02.trans X3
            have n1 := fun n (e : Mo.num? (w1.drop 1) = some n) => num_lt e
            have n2 := fun n (e : Mo.num? (w2.drop 1) = some n) => num_lt e
            refine ⟨_, _, rfl, ?_⟩
            cases e1 : Mo.num? (w1.drop 1) with
            | none =>
              rw [e1] at qn
              exact ⟨_, rfl, rfl, _, rfl, iteT (iteT (qn rfl H3 X03))⟩
            | some m =>
            refine ⟨_, rfl, rfl, _, rfl, iteF ?_⟩
            cases e2 : Mo.num? (w2.drop 1) with
            | none =>
              rw [e1, e2] at qn
              exact ⟨_, rfl, rfl, _, rfl, iteT (iteT (qn rfl H3 X03))⟩
            | some st =>
            refine ⟨_, rfl, rfl, _, rfl, iteF ?_⟩
            rw [e1, e2] at q qn
            refine ⟨_, rfl, _, _, rfl, rfl, _, rfl, ?_⟩
            by_cases c2 : m < 2
            · refine ifP (by omega) (iteT (qn ?_ H3 X03))
              exact if_neg (fun z => by omega)
            refine ifN (by omega) ?_
            refine ⟨_, rfl, p, as, ts, rfl, X03 _ _ hp, hA.mono X03, hn, hok, hf, hlt, hpc, fun H4 X4 => ⟨_, rfl, ?_⟩⟩
            have X04 := X03.trans X4
            cases hr : isR0 ts with
            | false =>
              refine iteT (qn ?_ H4 X04)
              exact if_neg (fun z => by rw [hr] at z; cases z.2.1)
            | true =>
            refine iteF ?_
            have hp4 := X04 _ _ hp
            have hA4 := hA.mono X04
            obtain ⟨b1, t1, aL, m1, hD1, eL⟩ := last_dz hA4 ne
            obtain ⟨b2, t2, aF, m2, hD2, eF⟩ : ∃ b t, atI (as.map V.ref) 0 = some (.ref b) ∧ t ∈ ts ∧ DtAt H4 t b ∧ b0L ts = t.b0 := by
              cases ts with
              | nil => exact absurd rfl ne
              | cons t r =>
                unfold DtsAt at hA4
                obtain ⟨b1, rr, rfl, hD1, _⟩ := hA4
                exact ⟨b1, t, atI_nat (j := 0) rfl, List.mem_cons_self, hD1, by rw [b0L]⟩
            have k1 := nestL_mem m1
            have k2 := nestL_mem m2
            refine ⟨_, rfl, _, rfl, _, rfl, _, _, _, _, rfl, rfl, sq_lst hp4, aL, b1, t1, rfl, hD1, by omega, wk_nz (wkL_mem hok m1), fitL_mem hf m1, ?_⟩
            refine ⟨_, rfl, _, _, _, _, rfl, rfl, sq_lst hp4, aF, b2, t2, rfl, hD2, by omega, wk_nz (wkL_mem hok m2), _, _, rfl, rfl, _, _, rfl, rfl, _, rfl, ?_⟩
            by_cases c4 : e0L ts < st + b0L ts
            · refine ifN (by rw [eL, eF] at c4; omega) ?_
              refine ⟨_, rfl, p, _, rfl, .inl ⟨sq_lst hp4, fun r nr => ?_⟩⟩
              have Xr := ex_new (o := HO.tup (as.map V.ref)) nr
              have hr4 : upd H4 r (HO.tup (as.map V.ref)) r = some (HO.tup (as.map V.ref)) := upd_same
              generalize upd H4 r (HO.tup (as.map V.ref)) = H5 at Xr hr4 ⊢
              refine ⟨_, rfl, _, rfl, by show 4 ≤ sizeLine; decide, fun a na => ?_⟩
              have X05 := X04.trans Xr
              refine q (.ov ts m st) (if_pos ⟨by omega, hr, c4⟩) a _ (X05.trans (ex_new na)) (ex_fresh X05 na) ?_
              unfold DtAt
              exact ⟨r, as, upd_same, ex_new na _ _ hr4, (hA4.mono Xr).mono (ex_new na)⟩
            · refine ifP (by rw [eL, eF] at c4; omega) ?_
              exact qn (if_neg (fun z => c4 z.2.2)) H4 X04
          · refine ifnN (vstr_ne (b := [43]) d2) ?_
            refine qn ?_ H1 X1
            rw [lovW3, if_neg (fun z => d2 z.2.2)]
        · refine ifnN (vstr_ne (b := [120]) d1) ?_
          refine iteT (qn ?_ H1 X1)
          rw [lovW3, if_neg (fun z => d1 z.2.1)]
      · refine ifnN (vstr_ne (b := []) d0) ?_
        refine iteT (qn ?_ H1 X1)
        rw [lovW3, if_neg (fun z => d0 z.1)]
    · refine ifnN (vint_ne (by simp; omega)) ?_
      refine iteT (qn ?_ H1 X1)
      have e : lovWords ws = none := by
        unfold lovWords
        split
        · exact absurd rfl c3
        · rfl
      rw [e]
theorem ok__law_over_in {P : Program} {w : World} {K : PySem.W.Frag} {mg : Str → Option Value} {base : Heap} (T : Env K mg) : Fc P w K mg base 68 (He.ga K "_law_over_in") [] (sp__law_over_in K ) := by
  obtain ⟨fd, D, F⟩ := fb__law_over_in T
  exact F.all (D.bindsN fun _ _ _ _ _ _ us hl => match us, hl with | [_, _], _ => rfl)
end
section
def sp__law_stop (K : PySem.W.Frag) : Sp := fun vs H Q _ => ∃ (l : List Nat) (i : Nat), vs = [.str (SX.S l), .int i] ∧ i ≤ l.length ∧ l.length ≤ 20000 ∧ Q (.int ((i + (itm (l.drop i)).length : Nat) : Int)) H
theorem fb__law_stop {P : Program} {w : World} {K : PySem.W.Frag} {mg : Str → Option Value} {base : Heap} (T : Env K mg) : ∃ fd, FunD K "_law_stop" "_law_stop" (defArgs s__law_stop) (defBody s__law_stop) (defScope s__law_stop) [] [] (He.ga K "_law_stop") fd ∧ Fb P w K mg base 1 (He.ga K "_law_stop") fd ["_law_text_here", "_law_at"] (sp__law_stop K) := by
  obtain ⟨fd, F⟩ := T.f__law_stop
  refine ⟨fd, F, fb_of F sc__law_stop (fun vs H Q E h => ?_) (fun cdv A outer s H vs Q E hr h => ?_)⟩
  · obtain ⟨l, i, rfl, _⟩ := h
    rfl
  · obtain ⟨l, i, rfl, hi, hl, q⟩ := h
    refine ⟨_, (pss_cons (ps_while (passes_of rfl) (PW.pt (pw_and (pt_cmpR op_lt (pv 1) (pe_callB call_len (by rfl) T.n_len (by decide +kernel) (pa_cons (pv 0) pa_nil)) (nomark _)) (pw_and1 (pt_cmpR op_notIn_sign (pe_ix ix_str (pv 0) (pv 1) (fun _ _ => rfl)) pe_str (by rfl)))))
      (pss_one (ps_set (i := 1) sc__law_stop.nd rfl (Or.inl rfl) (pe_op op_add (pv 1) pe_int))))
      (pss_one (ps_ret (pv 1)))), ?_⟩
    refine ⟨fun m σ H' => H' = H ∧ ∃ j, σ = [some (.str (SX.S l)), some (.int ((i + j : Nat) : Int))] ∧ (itm (l.drop i)).length = j + (itm (l.drop (i + j))).length ∧ i + j ≤ l.length ∧ m = l.length - (i + j), ⟨_, rfl, 0, rfl, by rw [Nat.zero_add, Nat.add_zero], hi, rfl⟩, ?_⟩
    rintro m σ H1 ⟨rfl, j, rfl, hj, hle, rfl⟩
    have ls : (SX.S l).length ≤ sizeLine := sz_big (by rw [SX.S_len]; omega)
    refine ⟨_, rfl, _, rfl, _, _, rfl, ⟨ls, rfl⟩, _, _, rfl, rfl, _, rfl, ?_⟩
    rw [SX.S_len]
    by_cases c : i + j < l.length
    · refine ifP (by omega) ?_
      have hg : l[i + j]? = some l[i + j] := List.getElem?_eq_getElem c
      refine ⟨_, rfl, _, rfl, _, _, _, rfl, rfl, ls, atI_nat hg, _, _, rfl, rfl, _, rfl, ?_⟩
      rw [sep_in]
      have ed : l.drop (i + j) = l[i + j] :: l.drop (i + j + 1) := List.drop_eq_getElem_cons c
      cases hsep : isSep l[i + j] with
      | true =>
        refine iteF ?_
        have e0 : (itm (l.drop (i + j))).length = 0 := by
          rw [ed]
          unfold itm
          rw [List.takeWhile_cons, hsep]
          rfl
        rw [hj, e0] at q
        exact ⟨_, rfl, q⟩
      | false =>
        refine iteT ?_
        have e1 : (itm (l.drop (i + j))).length = 1 + (itm (l.drop (i + (j + 1)))).length := by
          rw [ed]
          unfold itm
          rw [List.takeWhile_cons, hsep]
          show _ + 1 = _
          rw [show i + j + 1 = i + (j + 1) by omega]
          omega
        refine ⟨fun σ' H' => H' = H1 ∧ σ' = [some (.str (SX.S l)), some (.int ((i + (j + 1) : Nat) : Int))], ?_, ?_⟩
        · rintro σ' H' ⟨rfl, rfl⟩
          exact ⟨l.length - (i + (j + 1)), by omega, rfl, j + 1, rfl, by omega, by omega, rfl⟩
        · refine ⟨_, rfl, _, _, rfl, rfl, rfl, ?_⟩
          show [_, some (V.int (((i + j : Nat) : Int) + 1))] = _
          rw [show ((i + j : Nat) : Int) + 1 = ((i + (j + 1) : Nat) : Int) by omega]
    · refine ifN (by omega) ?_
      have e0 : l.drop (i + j) = [] := List.drop_eq_nil_of_le (by omega)
      rw [hj, e0] at q
      exact ⟨_, rfl, q⟩
theorem ok__law_stop {P : Program} {w : World} {K : PySem.W.Frag} {mg : Str → Option Value} {base : Heap} (T : Env K mg) : Fc P w K mg base 1 (He.ga K "_law_stop") [] (sp__law_stop K ) := by
  obtain ⟨fd, D, F⟩ := fb__law_stop T
  exact F.all (D.bindsN fun _ _ _ _ _ _ us hl => match us, hl with | [_, _], _ => rfl)
end
section
def sp__law_next (K : PySem.W.Frag) : Sp := fun vs H Q _ => ∃ (R : Addr) (l : List Nat) (i c : Nat) (rs : List Addr) (st : List (List Tr)), vs = [.ref R, .str (SX.S l), .int (i : Nat)] ∧ l[i]? = some c ∧ l.length ≤ 10000 ∧ (itm (l.drop (i + 1))).length ≤ 590 ∧ H R = some (.lst (rs.reverse.map V.ref)) ∧ RowsD H st rs ∧ (R :: rs).Nodup ∧ (∀ row ∈ st, goodD row) ∧ (c = 41 → st.headD [] ≠ []) ∧ st ≠ [] ∧ st.length ≤ 20 ∧
  ∀ t x H', Kpt R H H' → H t = none → H' t = some (.tup [x, .int ((i + (1 + (itm (l.drop (i + 1))).length) : Nat) : Int)]) → (lshort c (itm (l.drop (i + 1))) st = none → x = .non) → (∀ s, lshort c (itm (l.drop (i + 1))) st = some s → H' R = some (.lst ((lpop c rs).reverse.map V.ref)) ∧ ∃ a, x = .ref a ∧ DtAt H' s a) → Q (.ref t) H'
theorem fb__law_next {P : Program} {w : World} {K : PySem.W.Frag} {mg : Str → Option Value} {base : Heap} (T : Env K mg) : ∃ fd, FunD K "_law_next" "_law_next" (defArgs s__law_next) (defBody s__law_next) (defScope s__law_next) [] [] (He.ga K "_law_next") fd ∧ Fb P w K mg base 72 (He.ga K "_law_next") fd ["_law_rows", "_law_text_here", "_law_at"] (sp__law_next K) := by
  obtain ⟨fd, F⟩ := T.f__law_next
  refine ⟨fd, F, fb_of F sc__law_next (fun vs H Q E h => ?_) (fun cdv A outer s H vs Q E hr h => ?_)⟩
  · obtain ⟨R, l, i, c, rs, st, rfl, _⟩ := h
    rfl
  · obtain ⟨R, l, i, c, rs, st, rfl, hc, hl, hit, hR, hrs, nd, hgood, htop, ne, hst, q⟩ := h
    refine ⟨_, (pss_cons (ps_set (i := 3) sc__law_next.nd rfl (Or.inl rfl) (c_call (ok__law_stop T) (hr.mono (by decide)) T.g__law_stop T.k__law_stop takes0 (pa_cons (pv 1) (pa_cons (pe_op op_add (pv 2) pe_int) pa_nil))))
      (pss_cons (ps_if (pt_cmpR op_ne (pe_ix ix_str (pv 1) (pv 2) (fun _ _ => rfl)) pe_str (nomark _))
      (pss_one (ps_ret (pe_tup (pa_cons (c_call (ok__law_at_in T) (hr.mono (by decide)) T.g__law_at_in T.k__law_at_in takes0 (pa_cons (pe_slice sl_str (pv 1) (po_some (pv 2)) (po_some (pv 3))) pa_nil)) (pa_cons (pv 3) pa_nil)))))
      pss_nil)
      (pss_cons (ps_if (pt_cmpR op_eq (pe_callB call_len (by rfl) T.n_len (by decide +kernel) (pa_cons (pv 0) pa_nil)) pe_int (nomark _))
      (pss_one (ps_ret (pe_tup (pa_cons pe_non (pa_cons (pv 3) pa_nil)))))
      pss_nil)
      (pss_cons (ps_set (i := 4) sc__law_next.nd rfl (Or.inl rfl) (pe_bm0 PySem.F.plainAttrs_list PySem.F.slot_list_pop PySem.F.type_list_pop mt_pop (pv 0)))
      (pss_one (ps_ret (pe_tup (pa_cons (c_call (ok__law_over_in T) (hr.mono (by decide)) T.g__law_over_in T.k__law_over_in takes0 (pa_cons (pv 4) (pa_cons (pe_slice sl_str (pv 1) (po_some (pe_op op_add (pv 2) pe_int)) (po_some (pv 3))) pa_nil))) (pa_cons (pv 3) pa_nil))))))))), ?_⟩
    have ls : (SX.S l).length ≤ sizeLine := sz_big (by rw [SX.S_len]; omega)
    have hi : i < l.length := (List.getElem?_eq_some_iff.mp hc).1
    have hat : atI l ((i : Nat) : Int) = some c := atI_nat hc
    have hlen := hrs.len
    refine ⟨_, rfl, _, rfl, _, _, rfl, rfl, l, i + 1, rfl, by omega, by omega, ?_⟩
    have ei : i + 1 + (itm (l.drop (i + 1))).length = i + (1 + (itm (l.drop (i + 1))).length) := by omega
    rw [ei]
    have hbound : i + (1 + (itm (l.drop (i + 1))).length) ≤ l.length := by
      have := itm_len (l.drop (i + 1))
      rw [List.length_drop] at this
      omega
    refine ⟨_, rfl, _, rfl, _, _, _, rfl, rfl, ls, hat, rfl, _, rfl, ?_⟩
    try dsimp only [tNil]
    by_cases c4 : c = 41
    · refine ifnP (by rw [c4]; rfl) ?_
      refine ⟨_, rfl, _, _, rfl, (.inl ⟨_, ⟨(sq_lst hR), rfl⟩⟩), rfl, _, rfl, ?_⟩
      obtain ⟨top, stq, rfl⟩ := List.exists_cons_of_ne_nil ne
      obtain ⟨r0, rq, rfl, ⟨as, hr0, hS⟩, hrq⟩ := id hrs
      have hg0 := hgood top List.mem_cons_self
      have nR : R ≠ r0 := fun z => (List.nodup_cons.mp nd).1 (by rw [z]; exact List.mem_cons_self)
      have nR2 : R ∉ rq := fun z => (List.nodup_cons.mp nd).1 (List.mem_cons_of_mem _ z)
      cases stq with
      | nil =>
        have eq0 : rq = [] := hrq
        subst eq0
        refine ifP rfl ?_
        refine ⟨_, rfl, by show 2 ≤ sizeLine; decide, fun t nt => ?_⟩
        refine q t .non _ (fun b o _ e => ex_new nt _ _ e) nt upd_same (fun _ => rfl) (fun s e => ?_)
        unfold lshort at e
        rw [if_pos c4] at e
        cases e
      | cons nxt rest =>
      obtain ⟨r1, rq2, rfl, h1', hrq2⟩ := id hrq
      refine ifN (vint_ne (by simp; omega)) ?_
      have el : (r0 :: r1 :: rq2).reverse.map V.ref = (r1 :: rq2).reverse.map V.ref ++ [.ref r0] := by
        rw [List.reverse_cons, List.map_append]
        rfl
      have hR' := hR
      rw [el] at hR'
      have K2 : Kpt R H (upd H R (.lst ((r1 :: rq2).reverse.map V.ref))) := fun b o hb e => by
        rw [upd_ne hb]
        exact e
      refine ⟨_, rfl, (.inl ⟨rfl, ⟨_, (sq_lst hR')⟩⟩), R, _, .ref r0, rfl, rfl, hR', by simp, ?_⟩
      rw [List.dropLast_concat]
      have hR2 : upd H R (.lst ((r1 :: rq2).reverse.map V.ref)) R = some (.lst ((r1 :: rq2).reverse.map V.ref)) := upd_same
      have hr02 := K2 _ _ nR.symm hr0
      have hS2 := hS.keep (K2.tup hR)
      have nf : ∀ a, upd H R (.lst ((r1 :: rq2).reverse.map V.ref)) a = none → H a = none := fun a n => by
        by_cases z : a = R
        · rw [z, hR2] at n
          cases n
        · rw [upd_ne z] at n
          exact n
      generalize upd H R (.lst ((r1 :: rq2).reverse.map V.ref)) = H2 at K2 hR2 hr02 hS2 nf ⊢
      refine ⟨_, rfl, _, rfl, _, rfl, _, _, rfl, rfl, _, rfl, _, rfl, _, rfl, _, rfl, ls, ?_⟩
      dsimp only [tNil]
      rw [show ((i : Nat) : Int) + 1 = ((i + 1 : Nat) : Int) by omega, Mo.cut_mid]
      rw [show i + (1 + (itm (l.drop (i + 1))).length) - (i + 1) = (itm (l.drop (i + 1))).length by omega, itm_take]
      have eS : lshort c (itm (l.drop (i + 1))) (top :: nxt :: rest) = lovIn top (itm (l.drop (i + 1))) := by
        unfold lshort
        rw [if_pos c4]
      have eP : lpop c (r0 :: r1 :: rq2) = r1 :: rq2 := by
        unfold lpop
        rw [if_pos c4]
        rfl
      rw [eS, eP] at q
      have K3 : ∀ (H3 : Hp), Ex H2 H3 → Kpt R H H3 := fun H3 X3 b o hb e => X3 _ _ (K2 b o hb e)
      refine ⟨r0, as, top, _, rfl, hr02, hS2, htop c4, hg0.2.2.1, hg0.1, hg0.2.1, hg0.2.2.2.1, hg0.2.2.2.2, by omega, fun hno H3 X3 => ?_, fun s hs a H3 X3 na hA => ?_⟩
      · refine ⟨_, rfl, by show 2 ≤ sizeLine; decide, fun t nt => ?_⟩
        refine q t .non _ (K3 _ (X3.trans (ex_new nt))) (nf _ (ex_fresh X3 nt)) upd_same (fun _ => rfl) (fun s e => ?_)
        rw [hno] at e
        cases e
      · refine ⟨_, rfl, by show 2 ≤ sizeLine; decide, fun t nt => ?_⟩
        refine q t (.ref a) _ (K3 _ (X3.trans (ex_new nt))) (nf _ (ex_fresh X3 nt)) upd_same (fun e => ?_) (fun s' e => ⟨?_, a, rfl, ?_⟩)
        · rw [hs] at e
          cases e
        · exact ex_new nt _ _ (X3 _ _ hR2)
        · rw [hs] at e
          cases e
          exact hA.mono (ex_new nt)
    · refine ifnN (vch_ne (d := 41) c4) ?_
      refine ⟨_, rfl, _, rfl, _, rfl, _, rfl, _, rfl, _, rfl, ls, ?_⟩
      try dsimp only [tNil]
      rw [Mo.cut_mid]
      have et : (l.drop i).take (i + (1 + (itm (l.drop (i + 1))).length) - i) = c :: itm (l.drop (i + 1)) := by
        have ed : l.drop i = c :: l.drop (i + 1) := by
          rw [List.drop_eq_getElem_cons hi]
          obtain ⟨_, e⟩ := List.getElem?_eq_some_iff.mp hc
          rw [e]
        rw [ed, show i + (1 + (itm (l.drop (i + 1))).length) - i = (itm (l.drop (i + 1))).length + 1 by omega, List.take_succ_cons, itm_take]
      rw [et]
      have eS : lshort c (itm (l.drop (i + 1))) st = (Mo.momOf (c :: itm (l.drop (i + 1)))).map Tr.at := by
        unfold lshort
        rw [if_neg c4]
      have eP : lpop c rs = rs := by
        unfold lpop
        rw [if_neg c4]
      rw [eS, eP] at q
      have K3 : ∀ (H3 : Hp), Ex H H3 → Kpt R H H3 := fun H3 X3 b o hb e => X3 _ _ e
      refine ⟨_, rfl, by rw [List.length_cons]; omega, fun hno H3 X3 => ?_, fun n hn a H3 X3 na hA => ?_⟩
      · refine ⟨_, rfl, by show 2 ≤ sizeLine; decide, fun t nt => ?_⟩
        refine q t .non _ (K3 _ (X3.trans (ex_new nt))) (ex_fresh X3 nt) upd_same (fun _ => rfl) (fun s e => ?_)
        rw [hno] at e
        cases e
      · refine ⟨_, rfl, by show 2 ≤ sizeLine; decide, fun t nt => ?_⟩
        refine q t (.ref a) _ (K3 _ (X3.trans (ex_new nt))) (ex_fresh X3 nt) upd_same (fun e => ?_) (fun s' e => ⟨?_, a, rfl, ?_⟩)
        · rw [hn] at e
          cases e
        · exact ex_new nt _ _ (X3 _ _ hR)
        · rw [hn] at e
          cases e
          unfold DtAt
          exact ex_new nt _ _ hA
theorem ok__law_next {P : Program} {w : World} {K : PySem.W.Frag} {mg : Str → Option Value} {base : Heap} (T : Env K mg) : Fc P w K mg base 72 (He.ga K "_law_next") [] (sp__law_next K ) := by
  obtain ⟨fd, D, F⟩ := fb__law_next T
  exact F.all (D.bindsN fun _ _ _ _ _ _ us hl => match us, hl with | [_, _, _], _ => rfl)
end
section
/-- what stands behind an item -/
def lend (r : List Nat) : Option (Nat × Bool) := if r.take 2 = [44, 32] then some (2, true) else if r = [] ∨ r.take 1 = [41] then some (0, false) else none
def lput (s : Tr) : List (List Tr) → List (List Tr)
  | [] => []
  | row :: rest => (row ++ [s]) :: rest
def lstp (c : Nat) (r : List Nat) (st : List (List Tr)) (due : Bool) : Option (Nat × List (List Tr) × Bool) :=
  if c = 40 then (if due = true ∧ st.length < 9 then some (1, [] :: st, true) else none)
  else if due = decide (c = 41) then none
  else match lshort c (itm r) st with
    | none => none
    | some s => match lend (r.drop (itm r).length) with
      | none => none
      | some (k, d) => some (1 + (itm r).length + k, lput s (lpop c st), d)
def lrd : Nat → List Nat → List (List Tr) → Bool → Option (List Tr)
  | _, [], st, due => (match st with
    | [ts] => if due = false ∧ isR0 ts = true then some ts else none
    | _ => none)
  | 0, _ :: _, _, _ => none
  | f + 1, c :: r, st, due => match lstp c r st due with
    | some (k, st', d) => lrd f ((c :: r).drop k) st' d
    | none => none
theorem lend_le {r : List Nat} {k : Nat} {d : Bool} (h : lend r = some (k, d)) : k ≤ r.length := by
  unfold lend at h
  split at h
  · rename_i e
    cases h
    have := congrArg List.length e
    rw [List.length_take] at this
    simp at this
    omega
  · split at h
    · cases h
      exact Nat.zero_le _
    · cases h
theorem lstp_pos {c : Nat} {r : List Nat} {st st' : List (List Tr)} {due d : Bool} {k : Nat} (h : lstp c r st due = some (k, st', d)) : 1 ≤ k ∧ k ≤ 1 + r.length := by
  unfold lstp at h
  split at h
  · split at h
    · cases h
      omega
    · cases h
  · split at h
    · cases h
    · split at h
      · cases h
      · split at h
        · cases h
        · rename_i k2 d2 e
          cases h
          have h1 := lend_le e
          have h2 := itm_len r
          rw [List.length_drop] at h1
          omega
theorem lrd_more : ∀ {f : Nat} {r : List Nat} {st : List (List Tr)} {due : Bool} {g : Nat}, r.length ≤ f → f ≤ g → lrd g r st due = lrd f r st due
  | f, [], st, due, g, _, _ => by
    cases f <;> cases g <;> rfl
  | 0, c :: r, st, due, g, h, _ => by simp at h
  | f + 1, c :: r, st, due, g, h, hg => by
    obtain ⟨g', rfl⟩ : ∃ g', g = g' + 1 := ⟨g - 1, by omega⟩
    show (match lstp c r st due with
      | some (k, st', d) => lrd g' ((c :: r).drop k) st' d
      | none => none) = (match lstp c r st due with
      | some (k, st', d) => lrd f ((c :: r).drop k) st' d
      | none => none)
    cases e : lstp c r st due with
    | none => rfl
    | some p =>
      obtain ⟨k, st', d⟩ := p
      have h5 := (lstp_pos e).1
      exact lrd_more (by rw [List.length_drop, List.length_cons] at *; omega) (by omega)
def lrdA (r : List Nat) (st : List (List Tr)) (due : Bool) : Option (List Tr) := lrd r.length r st due
theorem lrdA_cons {c : Nat} {r : List Nat} {st : List (List Tr)} {due : Bool} : lrdA (c :: r) st due = match lstp c r st due with
    | some (k, st', d) => lrdA ((c :: r).drop k) st' d
    | none => none := by
  show (match lstp c r st due with
      | some (k, st', d) => lrd r.length ((c :: r).drop k) st' d
      | none => none) = _
  cases e : lstp c r st due with
  | none => rfl
  | some p =>
    obtain ⟨k, st', d⟩ := p
    have h5 := (lstp_pos e).1
    exact lrd_more (Nat.le_refl _) (by rw [List.length_drop, List.length_cons]; omega)
/-- the row that a text tells, as the law has it -/
def lread (l : List Nat) : Option (List Tr) := lrdA l [[]] true
def nsS : List (List Tr) → Prop
  | [] => True
  | row :: rest => nestL row + rest.length ≤ 8 ∧ nsS rest
def GoodS (st : List (List Tr)) (due : Bool) : Prop := st ≠ [] ∧ st.length ≤ 9 ∧ nsS st ∧ (∀ row ∈ st, wkL row ∧ fitL row) ∧ (due = false → st.headD [] ≠ [])
theorem nsS_mem : ∀ {st : List (List Tr)} {row : List Tr}, nsS st → row ∈ st → nestL row ≤ 8
  | x :: r, row, h, hm => by
    rcases List.mem_cons.mp hm with rfl | hm
    · have := h.1
      omega
    · exact nsS_mem h.2 hm
theorem lovIn_good {ps : List Tr} {w : List Nat} {t : Tr} (h : lovIn ps w = some t) (hl : w.length ≤ 250) (hw : wkL ps) (hf : fitL ps) (ne : ps ≠ []) : t.wk ∧ t.fit ∧ t.nest = 1 + nestL ps ∧ t.pcs = 1 + pcsL ps ∧ ∃ m s, t = .ov ps m s ∧ lovWords (TL.spl [32] 0 [] w) = some (m, s) := by
  unfold lovIn at h
  split at h
  · rename_i m s e
    split at h
    · rename_i c
      cases h
      obtain ⟨wl, _⟩ := Mo.spl_le 32 w.length w (Nat.le_refl _)
      have e0 := e
      unfold lovWords at e
      split at e
      · rename_i w0 w1 w2 es
        have l1 := wl w1 (by rw [es]; simp)
        have l2 := wl w2 (by rw [es]; simp)
        split at e
        · split at e
          · rename_i a b ha hb
            cases e
            have f1 := Nat.lt_of_lt_of_le (num_lt ha) (pow_le (show (w1.drop 1).length ≤ 255 by rw [List.length_drop]; omega))
            have f2 := Nat.lt_of_lt_of_le (num_lt hb) (pow_le (show (w2.drop 1).length ≤ 255 by rw [List.length_drop]; omega))
            refine ⟨?_, ?_, by rw [Tr.nest], by rw [Tr.pcs], m, s, rfl, e0⟩
            · unfold Tr.wk
              exact ⟨ne, c.1, c.2.2, c.2.1, hw⟩
            · unfold Tr.fit
              exact ⟨f1, f2, hf⟩
          · cases e
        · cases e
      · cases e
    · cases h
  · cases h
theorem lshort_good {c : Nat} {w : List Nat} {st : List (List Tr)} {s : Tr} {due : Bool} (h : lshort c w st = some s) (hg : GoodS st due) (hl : w.length ≤ 250) (hd : due ≠ decide (c = 41)) : GoodS (lput s (lpop c st)) true ∧ GoodS (lput s (lpop c st)) false ∧ pcsS (lput s (lpop c st)) ≤ pcsS st + 1 := by
  obtain ⟨ne, h9, hn, hw, ht⟩ := hg
  unfold lshort at h
  unfold lpop
  split at h
  · rename_i c4
    rw [if_pos c4]
    have hd : due = false := by
      cases due with
      | false => rfl
      | true => exact absurd (by rw [c4]; rfl) hd
    split at h
    · rename_i top nxt rest
      have h0 := hw top (by simp)
      have h1 := hw nxt (by simp)
      obtain ⟨k1, k2, k3, k4, _⟩ := lovIn_good h hl h0.1 h0.2 (ht hd)
      obtain ⟨n1, n2, n3⟩ := hn
      have g : ∀ row ∈ (nxt ++ [s]) :: rest, wkL row ∧ fitL row := fun row hr => by
        rcases List.mem_cons.mp hr with rfl | hr
        · exact ⟨wkL_app h1.1 (wkL_one k1), fitL_app h1.2 (fitL_one k2)⟩
        · exact hw row (by simp [hr])
      have n : nsS ((nxt ++ [s]) :: rest) := ⟨by rw [nestL_app, nestL_one]; simp at n1 n2; omega, n3⟩
      refine ⟨⟨by simp [lput], by simp at h9; show rest.length + 1 ≤ 9; omega, n, g, nofun⟩, ⟨by simp [lput], by simp at h9; show rest.length + 1 ≤ 9; omega, n, g, fun _ => by show nxt ++ [s] ≠ []; simp⟩, ?_⟩
      show pcsS ((nxt ++ [s]) :: rest) ≤ pcsS (top :: nxt :: rest) + 1
      simp only [pcsS, List.map_cons, List.sum_cons, pcsL_app, pcsL_one]
      omega
    · cases h
  · rename_i c4
    rw [if_neg c4]
    obtain ⟨n, hm, rfl⟩ := Option.map_eq_some_iff.mp h
    obtain ⟨top, rest, rfl⟩ := List.exists_cons_of_ne_nil ne
    have h0 := hw top (by simp)
    have g : ∀ row ∈ (top ++ [Tr.at n]) :: rest, wkL row ∧ fitL row := fun row hr => by
      rcases List.mem_cons.mp hr with rfl | hr
      · exact ⟨wkL_app h0.1 (wkL_one (by unfold Tr.wk; trivial)), fitL_app h0.2 (fitL_one (by unfold Tr.fit; exact momOf_lt hm (by rw [List.length_cons]; omega)))⟩
      · exact hw row (by simp [hr])
    have n' : nsS ((top ++ [Tr.at n]) :: rest) := ⟨by rw [nestL_app, nestL_one]; have := hn.1; unfold Tr.nest; omega, hn.2⟩
    refine ⟨⟨by simp [lput], h9, n', g, nofun⟩, ⟨by simp [lput], h9, n', g, fun _ => by show top ++ [Tr.at n] ≠ []; simp⟩, ?_⟩
    show pcsS ((top ++ [Tr.at n]) :: rest) ≤ pcsS (top :: rest) + 1
    simp only [pcsS, List.map_cons, List.sum_cons, pcsL_app, pcsL_one]
    unfold Tr.pcs
    omega
end
section
def sp__law_read (K : PySem.W.Frag) : Sp := fun vs H Q _ => ∃ l : List Nat, vs = [.str (SX.S l)] ∧ l.length ≤ 10000 ∧ (∀ i, (itm (l.drop i)).length ≤ 250) ∧ (lread l = none → ∀ H', Ex H H' → Q .non H') ∧ (∀ ts, lread l = some ts → ∀ (r : Addr) (as : List Addr) H', Ex H H' → H r = none → H' r = some (.tup (as.map V.ref)) → DtsAt H' ts as → Q (.ref r) H')
/-- the rows read so far, by the law -/
def LdInv (H : Hp) (l : List Nat) (R : Addr) (i : Nat) (σ : L2.St) (H' : Hp) : Prop := ∃ (st : List (List Tr)) (rs : List Addr) (due : Bool) (v4 : Option V), σ = [some (.str (SX.S l)), some (.ref R), some (.bl due), some (.int ((i : Nat) : Int)), v4] ∧ Ex H H' ∧ i ≤ l.length ∧ H' R = some (.lst (rs.reverse.map V.ref)) ∧ RowsD H' st rs ∧ (R :: rs).Nodup ∧ (∀ r ∈ rs, H r = none) ∧ GoodS st due ∧ pcsS st ≤ i ∧ lrdA (l.drop i) st due = lread l
theorem fb__law_read {P : Program} {w : World} {K : PySem.W.Frag} {mg : Str → Option Value} {base : Heap} (T : Env K mg) : ∃ fd, FunD K "_law_read" "_law_read" (defArgs s__law_read) (defBody s__law_read) (defScope s__law_read) [] [] (He.ga K "_law_read") fd ∧ Fb P w K mg base 76 (He.ga K "_law_read") fd ["_law_text_here"] (sp__law_read K) := by
  obtain ⟨fd, F⟩ := T.f__law_read
  refine ⟨fd, F, fb_of F sc__law_read (fun vs H Q E h => ?_) (fun cdv A outer s H vs Q E hr h => ?_)⟩
  · obtain ⟨l, rfl, _⟩ := h
    rfl
  · obtain ⟨l, rfl, hl, hi, qn, q⟩ := h
    refine ⟨_, (pss_cons (ps_set (i := 1) sc__law_read.nd rfl (Or.inl rfl) (pe_lst (pa_cons (pe_lst pa_nil) pa_nil)))
      (pss_cons (ps_set (i := 2) sc__law_read.nd rfl (Or.inl rfl) pe_bl)
      (pss_cons (ps_set (i := 3) sc__law_read.nd rfl (Or.inl rfl) pe_int)
      (pss_cons (ps_while (passes_of rfl) (pt_cmpR op_lt (pv 3) (pe_callB call_len (by rfl) T.n_len (by decide +kernel) (pa_cons (pv 0) pa_nil)) (nomark _))
      (pss_one (ps_if (pt_cmpR op_eq (pe_ix ix_str (pv 0) (pv 3) (fun _ _ => rfl)) pe_str (nomark _))
      (pss_cons (ps_expr (pe_bm PySem.F.plainAttrs_list PySem.F.slot_list_append PySem.F.type_list_append mt_append (pv 1) (pa_cons (pe_lst pa_nil) pa_nil)))
      (pss_cons (ps_set (i := 3) sc__law_read.nd rfl (Or.inl rfl) (pe_op op_add (pv 3) pe_int))
      (pss_one (ps_if (PW.pt (pw_or (pt_not (pt_val (pv 2))) (pw_or1 (pt_cmpR op_gt (pe_callB call_len (by rfl) T.n_len (by decide +kernel) (pa_cons (pv 1) pa_nil)) pe_int (nomark _)))))
      (pss_one (ps_ret pe_non))
      pss_nil))))
      (pss_cons (ps_if (pt_cmpR op_eq (pv 2) (pe_cmpR op_eq (pe_ix ix_str (pv 0) (pv 3) (fun _ _ => rfl)) pe_str (nomark _)) (nomark _))
      (pss_one (ps_ret pe_non))
      pss_nil)
      (pss_cons (ps_asg (c_call (ok__law_next T) (hr.mono (by decide)) T.g__law_next T.k__law_next takes0 (pa_cons (pv 1) (pa_cons (pv 0) (pa_cons (pv 3) pa_nil)))) (pg_tup (by rfl) (pgs_cons (pg_name (i := 4) sc__law_read.nd rfl (Or.inl rfl)) (pgs_cons (pg_name (i := 3) sc__law_read.nd rfl (Or.inl rfl)) pgs_nil))))
      (pss_cons (ps_if (pt_cmpR op_isN (pv 4) pe_non (nomark _))
      (pss_one (ps_ret pe_non))
      pss_nil)
      (pss_cons (ps_expr (pe_bm PySem.F.plainAttrs_list PySem.F.slot_list_append PySem.F.type_list_append mt_append (pe_ix ix_list (pv 1) (pe_un un_neg pe_int) (fun _ _ => rfl)) (pa_cons (pv 4) pa_nil)))
      (pss_cons (ps_set (i := 2) sc__law_read.nd rfl (Or.inl rfl) (pe_cmpR op_eq (pe_slice sl_str (pv 0) (po_some (pv 3)) (po_some (pe_op op_add (pv 3) pe_int))) pe_str (nomark _)))
      (pss_cons (ps_set (i := 3) sc__law_read.nd rfl (Or.inl rfl) (pe_op op_add (pv 3) (pe_op op_mul pe_int (pe_callTy call_int1 (by rfl) T.n_int (by decide +kernel) (pa_cons (pv 2) pa_nil)))))
      (pss_one (ps_if (PW.pt (pw_and (pt_not (pt_val (pv 2))) (pw_and1 (pt_cmpR op_notIn_seq (pe_slice sl_str (pv 0) (po_some (pv 3)) (po_some (pe_op op_add (pv 3) pe_int))) (pe_tup (pa_cons pe_str (pa_cons pe_str pa_nil))) (by rfl)))))
      (pss_one (ps_ret pe_non))
      pss_nil)))))))))))
      (pss_cons (ps_if (PW.pt (pw_or (pt_val (pv 2)) (pw_or (pt_cmpR op_gt (pe_callB call_len (by rfl) T.n_len (by decide +kernel) (pa_cons (pv 1) pa_nil)) pe_int (nomark _)) (pw_or1 (pt_not (pt_val (c_call (ok__law_is_row T) (hr.mono (by decide)) T.g__law_is_row T.k__law_is_row takes0 (pa_cons (pe_ix ix_list (pv 1) pe_int (fun _ _ => rfl)) pa_nil))))))))
      (pss_one (ps_ret pe_non))
      pss_nil)
      (pss_one (ps_ret (pe_callTy call_tuple_of (by rfl) T.n_tuple (by decide +kernel) (pa_cons (pe_ix ix_list (pv 1) pe_int (fun _ _ => rfl)) pa_nil))))))))), ?_⟩
    have ls : (SX.S l).length ≤ sizeLine := sz_big (by rw [SX.S_len]; omega)
    refine ⟨(by decide), fun r0 nr0 => ⟨by show 1 ≤ sizeLine; decide, fun R nR => ?_⟩⟩
    have X1 := ex_new (o := .lst []) nr0
    have X2 := X1.trans (ex_new (o := .lst [.ref r0]) nR)
    have hr0 : upd (upd H r0 (.lst [])) R (.lst [.ref r0]) r0 = some (.lst []) := ex_new (o := .lst [.ref r0]) nR _ _ upd_same
    have hR0 : upd (upd H r0 (.lst [])) R (.lst [.ref r0]) R = some (.lst [.ref r0]) := upd_same
    have nRr : R ≠ r0 := fun z => by
      rw [z] at nR
      rw [show upd H r0 (.lst []) r0 = some (.lst []) from upd_same] at nR
      cases nR
    have nR1 : H R = none := ex_fresh X1 nR
    generalize upd (upd H r0 (.lst [])) R (.lst [.ref r0]) = H1 at X2 hr0 hR0 ⊢
    refine ⟨fun m σ H' => ∃ i, m = l.length - i ∧ LdInv H l R i σ H', ⟨_, 0, rfl, [[]], [r0], true, _, rfl, X2, Nat.zero_le _, hR0, ⟨r0, [], rfl, ⟨[], hr0, by unfold DtsAt; rfl⟩, rfl⟩, by simp [nRr], fun r hr => by rw [List.mem_singleton.mp hr]; exact nr0, ⟨by simp, by decide, ⟨by simp [nestL], trivial⟩, fun row hrow => by rw [List.mem_singleton.mp hrow]; exact ⟨by unfold wkL; trivial, by unfold fitL; trivial⟩, nofun⟩, by simp [pcsS, pcsL], rfl⟩, ?_⟩
    rintro m σ H2 ⟨i, rfl, st, rs, due, v4, rfl, X3, hil, hR, hrs, nd, nrs, hg, hp, erd⟩
    refine ⟨_, rfl, _, rfl, _, _, rfl, ⟨ls, rfl⟩, _, _, rfl, rfl, _, rfl, ?_⟩
    try dsimp only [tNil]
    rw [SX.S_len]
    by_cases c1 : i < l.length
    · refine ifP (by omega) ?_
      have hgc : l[i]? = some l[i] := List.getElem?_eq_getElem c1
      have ed : l.drop i = l[i] :: l.drop (i + 1) := List.drop_eq_getElem_cons c1
      rw [ed, lrdA_cons] at erd
      generalize l[i] = c at hgc ed erd
      have hat : atI l ((i : Nat) : Int) = some c := atI_nat hgc
      obtain ⟨g1, g2, g3, g4, g5⟩ := id hg
      have hlen := hrs.len
      refine ⟨fun σ' H' => ∃ i', i < i' ∧ LdInv H l R i' σ' H', ?_, ?_⟩
      · rintro σ' H' ⟨i', hi', r⟩
        have hle : i' ≤ l.length := by
          obtain ⟨_, _, _, _, _, _, h, _⟩ := r
          exact h
        exact ⟨l.length - i', by omega, i', rfl, r⟩
      refine ⟨_, rfl, _, rfl, _, _, _, rfl, rfl, ls, hat, rfl, _, rfl, ?_⟩
      try dsimp only [tNil]
      by_cases c2 : c = 40
      · subst c2
        refine ifP rfl ?_
        refine ⟨_, rfl, (.inl ⟨rfl, ⟨_, (sq_lst hR)⟩⟩), (by decide), ?_⟩
        intro n nn
        have Xn := ex_new (o := .lst []) nn
        have hRn := Xn _ _ hR
        have Rn : R ≠ n := ne_of_none hR nn
        have nrs0 : n ∉ rs := fun z => by
          obtain ⟨xs, e⟩ := hrs.some z
          rw [nn] at e
          cases e
        have hl2 : (List.map V.ref rs.reverse).length ≤ 16000000 := by simp; omega
        refine ⟨_, _, _, rfl, rfl, hRn, sz_lt hl2, _, rfl, _, _, rfl, rfl, ?_⟩
        have K1 : Kpt R (upd H2 n (.lst [])) (upd (upd H2 n (.lst [])) R (.lst (rs.reverse.map V.ref ++ [.ref n]))) := fun b o hb e => by
          rw [upd_ne hb]
          exact e
        have hR3 : upd (upd H2 n (.lst [])) R (.lst (rs.reverse.map V.ref ++ [.ref n])) R = some (.lst ((n :: rs).reverse.map V.ref)) := by
          rw [upd_same, List.reverse_cons, List.map_append]
          rfl
        have hn3 := K1 _ _ Rn.symm (upd_same (o := HO.lst []))
        have hrs3 : RowsD (upd (upd H2 n (.lst [])) R (.lst (rs.reverse.map V.ref ++ [.ref n]))) st rs := K1.rows hRn (hrs.keep (fun b xs e => Xn _ _ e) fun r _ o e => Xn _ _ e) (List.nodup_cons.mp nd).1
        have X4 : Ex H (upd (upd H2 n (.lst [])) R (.lst (rs.reverse.map V.ref ++ [.ref n]))) := fun b o e => K1 b o (ne_of_none e nR1) (Xn _ _ (X3 _ _ e))
        generalize upd (upd H2 n (.lst [])) R (.lst (rs.reverse.map V.ref ++ [.ref n])) = H4 at K1 hR3 hn3 hrs3 X4 ⊢
        have el : lstp 40 (l.drop (i + 1)) st due = if due = true ∧ st.length < 9 then some (1, [] :: st, true) else none := by
          unfold lstp
          rw [if_pos rfl]
        rw [el] at erd
        refine ⟨_, rfl, _, rfl, ?_⟩
        cases due with
        | false =>
          rw [if_neg (by simp)] at erd
          exact iteT (iteT (qn erd.symm H4 X4))
        | true =>
          refine iteF ?_
          refine ⟨_, rfl, _, _, rfl, (.inl ⟨_, ⟨(sq_lst hR3), rfl⟩⟩), _, _, rfl, rfl, _, rfl, ?_⟩
          by_cases c9 : st.length < 9
          · refine ifN (by simp; omega) ?_
            rw [if_pos ⟨rfl, c9⟩] at erd
            refine ⟨i + 1, by omega, [] :: st, n :: rs, true, v4, rfl, X4, by omega, hR3, ⟨n, rs, rfl, ⟨[], hn3, by unfold DtsAt; rfl⟩, hrs3⟩, ?_, fun r hr => ?_, ⟨by simp, by simp; omega, ⟨by simp [nestL]; omega, g3⟩, fun row hr => ?_, nofun⟩, ?_, ?_⟩
            · refine List.nodup_cons.mpr ⟨fun z => ?_, List.nodup_cons.mpr ⟨nrs0, (List.nodup_cons.mp nd).2⟩⟩
              rcases List.mem_cons.mp z with z | z
              · exact Rn z
              · exact (List.nodup_cons.mp nd).1 z
            · rcases List.mem_cons.mp hr with rfl | hr
              · exact ex_fresh X3 nn
              · exact nrs r hr
            · rcases List.mem_cons.mp hr with rfl | hr
              · exact ⟨by unfold wkL; trivial, by unfold fitL; trivial⟩
              · exact g4 row hr
            · show pcsS ([] :: st) ≤ i + 1
              simp [pcsS, pcsL]
              have : (List.map pcsL st).sum = pcsS st := rfl
              omega
            · rw [← erd]
              rfl
          · refine ifP (by simp; omega) ?_
            rw [if_neg (fun z => c9 z.2)] at erd
            exact qn erd.symm H4 X4
      · refine ifN (vch_ne (d := 40) c2) ?_
        refine ⟨_, rfl, _, rfl, _, rfl, _, _, _, rfl, rfl, ls, hat, rfl, rfl, _, rfl, ?_⟩
        try dsimp only [tNil]
        have e41 : decide (V.bl due = V.bl (decide (V.str ⟨#[c]⟩ = V.str (Str.ofString ")")))) = decide (due = decide (c = 41)) := by
          have e : decide (V.str ⟨#[c]⟩ = V.str (Str.ofString ")")) = decide (c = 41) := decide_eq_decide.mpr ⟨fun z => by injection z with z; have z : [c] = [41] := SX.S_inj z; injection z, fun z => by rw [z]; rfl⟩
          rw [e]
          exact decide_eq_decide.mpr ⟨fun z => by injection z, fun z => by rw [z]⟩
        rw [e41]
        have el : lstp c (l.drop (i + 1)) st due = if due = decide (c = 41) then none else match lshort c (itm (l.drop (i + 1))) st with
            | none => none
            | some s => match lend ((l.drop (i + 1)).drop (itm (l.drop (i + 1))).length) with
              | none => none
              | some (k, d) => some (1 + (itm (l.drop (i + 1))).length + k, lput s (lpop c st), d) := by
          unfold lstp
          rw [if_neg c2]
        rw [el] at erd
        by_cases cd : due = decide (c = 41)
        · rw [if_pos cd] at erd
          exact ifP cd (qn erd.symm H2 X3)
        refine ifN cd ?_
        rw [if_neg cd] at erd
        have good : ∀ row ∈ st, goodD row := fun row hr => by
          have h1 := pcsS_mem hr
          have h2 := len_pcsL row
          have h3 := nsS_mem g3 hr
          exact ⟨(g4 row hr).1, (g4 row hr).2, by omega, by omega, by omega⟩
        have htop : c = 41 → st.headD [] ≠ [] := fun z => g5 (by
          cases due with
          | false => rfl
          | true => exact absurd (by rw [z]; rfl) cd)
        have i251 := hi (i + 1)
        refine ⟨_, rfl, _, rfl, _, rfl, R, l, i, c, rs, st, rfl, hgc, hl, by omega, hR, hrs, nd, good, htop, g1, by omega, fun t x H5 K5 nt ht hno hsome => ?_⟩
        have X5 : Ex H H5 := fun b o e => K5 b o (ne_of_none e nR1) (X3 _ _ e)
        refine ⟨t, _, rfl, sq_tup ht, rfl, _, _, rfl, _, _, rfl, rfl, ?_⟩
        cases hs : lshort c (itm (l.drop (i + 1))) st with
        | none =>
          rw [hno hs]
          rw [hs] at erd
          exact ⟨_, rfl, rfl, _, rfl, iteT (qn erd.symm H5 X5)⟩
        | some s =>
        obtain ⟨hR5, a, rfl, hDa⟩ := hsome s hs
        rw [hs] at erd
        refine ⟨_, rfl, rfl, _, rfl, iteF ?_⟩
        obtain ⟨gT, gF, gp⟩ := lshort_good hs hg i251 cd
        have hpop : RowsD H2 (lpop c st) (lpop c rs) ∧ (R :: lpop c rs).Nodup ∧ (∀ r ∈ lpop c rs, r ∈ rs) := by
          unfold lpop
          by_cases c4 : c = 41
          · rw [if_pos c4, if_pos c4]
            obtain ⟨top, stq, rfl⟩ := List.exists_cons_of_ne_nil g1
            obtain ⟨r0, rq, rfl, _, hrq⟩ := id hrs
            exact ⟨hrq, List.nodup_cons.mpr ⟨fun z => (List.nodup_cons.mp nd).1 (List.mem_cons_of_mem _ z), (List.nodup_cons.mp (List.nodup_cons.mp nd).2).2⟩, fun r hr => List.mem_cons_of_mem _ hr⟩
          · rw [if_neg c4, if_neg c4]
            exact ⟨hrs, nd, fun r hr => hr⟩
        obtain ⟨hrs1, nd1, sub⟩ := hpop
        have hrs5 := K5.rows hR hrs1 (List.nodup_cons.mp nd1).1
        generalize lpop c st = st1 at hrs5 gT gF gp erd hrs1
        generalize lpop c rs = rs1 at hrs5 hR5 nd1 sub hrs1
        cases st1 with
        | nil => exact absurd rfl gT.1
        | cons top1 rest1 =>
        obtain ⟨r1, rq, rfl, ⟨as, hr1, hS1⟩, hrq⟩ := id hrs5
        have atl : atI ((r1 :: rq).reverse.map V.ref) (-1) = some (.ref r1) := by
          rw [List.reverse_cons, List.map_append]
          exact atI_last _ _
        have lt1 := pcsS_mem (row := top1) (st := top1 :: rest1) List.mem_cons_self
        have las := hS1.len
        refine ⟨_, rfl, _, rfl, _, _, _, _, rfl, rfl, (sq_lst hR5), atl, (.inl ⟨rfl, ⟨_, (sq_lst hr1)⟩⟩), _, rfl, r1, _, _, rfl, rfl, hr1, ?_, ?_⟩
        · have l1 := len_pcsL top1
          have l2 : pcsL top1 ≤ pcsS (lput s (top1 :: rest1)) := by
            show pcsL top1 ≤ pcsS ((top1 ++ [s]) :: rest1)
            simp only [pcsS, List.map_cons, List.sum_cons, pcsL_app]
            omega
          exact sz_lt (by rw [List.length_map, las]; omega)
        have K6 : Kpt r1 H5 (upd H5 r1 (.lst (as.map V.ref ++ [.ref a]))) := fun b o hb e => by
          rw [upd_ne hb]
          exact e
        have r1H : H r1 = none := nrs r1 (sub r1 List.mem_cons_self)
        have nR1' : R ≠ r1 := fun z => (List.nodup_cons.mp nd1).1 (by rw [z]; exact List.mem_cons_self)
        have hR6 := K6 _ _ nR1' hR5
        have h16 : upd H5 r1 (.lst (as.map V.ref ++ [.ref a])) r1 = some (.lst ((as ++ [a]).map V.ref)) := by
          rw [upd_same, List.map_append]
          rfl
        have hrq6 := K6.rows hr1 hrq (List.nodup_cons.mp (List.nodup_cons.mp nd1).2).1
        have hS6 := (hS1.keep (K6.tup hr1)).snoc (hDa.keep (K6.tup hr1))
        have X6 : Ex H (upd H5 r1 (.lst (as.map V.ref ++ [.ref a]))) := fun b o e => K6 b o (ne_of_none e r1H) (X5 _ _ e)
        generalize upd H5 r1 (.lst (as.map V.ref ++ [.ref a])) = H6 at K6 hR6 h16 hrq6 hS6 X6 ⊢
        have hrs6 : RowsD H6 (lput s (top1 :: rest1)) (r1 :: rq) := ⟨r1, rq, rfl, ⟨_, h16, hS6⟩, hrq6⟩
        have hit := itm_len (l.drop (i + 1))
        rw [List.length_drop] at hit
        generalize hL : (itm (l.drop (i + 1))).length = L at hit erd ⊢
        refine ⟨_, rfl, _, rfl, _, rfl, _, rfl, _, _, rfl, rfl, _, rfl, _, rfl, ls, rfl, ?_⟩
        obtain ⟨j, hj⟩ : ∃ j, j = i + (1 + L) := ⟨_, rfl⟩
        have hjl : j ≤ l.length := by omega
        rw [show (l.drop (i + 1)).drop L = l.drop j by rw [List.drop_drop, hj, Nat.add_assoc]] at erd
        have edr : ∀ k, (c :: l.drop (i + 1)).drop (1 + L + k) = l.drop (j + k) := fun k => by
          rw [← ed, List.drop_drop, hj]
          congr 1
          omega
        have e2 : cutS (SX.S l) (some ((j : Nat) : Int)) (some (((j : Nat) : Int) + 2)) = SX.S ((l.drop j).take 2) := by
          rw [show ((j : Nat) : Int) + 2 = ((j + 2 : Nat) : Int) by omega, Mo.cut_mid, show j + 2 - j = 2 by omega]
        have e1 : cutS (SX.S l) (some ((j : Nat) : Int)) (some (((j : Nat) : Int) + 1)) = SX.S ((l.drop j).take 1) := by
          rw [show ((j : Nat) : Int) + 1 = ((j + 1 : Nat) : Int) by omega, Mo.cut_mid, show j + 1 - j = 1 by omega]
        rw [← hj, e2]
        have inv : ∀ (k : Nat) (d : Bool) (H7 : Hp), Ex H6 H7 → lend (l.drop j) = some (k, d) → LdInv H l R (j + k) [some (.str (SX.S l)), some (.ref R), some (.bl d), some (.int ((j + k : Nat) : Int)), some (.ref a)] H7 := fun k d H7 Y e => by
          rw [e] at erd
          have lk := lend_le e
          rw [List.length_drop] at lk
          refine ⟨_, r1 :: rq, d, _, rfl, X6.trans Y, by omega, Y _ _ hR6, hrs6.keep (fun b xs e => Y _ _ e) (fun r _ o e => Y _ _ e), nd1, fun r hr => nrs r (sub r hr), by cases d; exact gF; exact gT, by omega, ?_⟩
          rw [← erd]
          show _ = lrdA ((c :: l.drop (i + 1)).drop (1 + L + k)) _ _
          rw [edr]
        by_cases cc : (l.drop j).take 2 = [44, 32]
        · have el2 : lend (l.drop j) = some (2, true) := by
            unfold lend
            rw [if_pos cc]
          have iv := inv 2 true H6 (.refl _) el2
          rw [show decide (V.str (SX.S ((l.drop j).take 2)) = V.str (Str.ofString ", ")) = true from decide_eq_true (by rw [cc]; rfl)]
          refine ⟨_, rfl, _, rfl, .inr ⟨true, rfl, ?_⟩⟩
          refine ⟨_, _, rfl, rfl, .inl ⟨by decide, by decide⟩, _, _, rfl, rfl, ?_⟩
          refine ⟨_, rfl, _, rfl, ?_⟩
          refine iteF ⟨j + 2, by omega, ?_⟩
          rw [show ((j + 2 : Nat) : Int) = ((j : Nat) : Int) + 2 by omega] at iv
          exact iv
        · rw [show decide (V.str (SX.S ((l.drop j).take 2)) = V.str (Str.ofString ", ")) = false from decide_eq_false (fun z => cc (by injection z with z; exact SX.S_inj (b := [44, 32]) z))]
          refine ⟨_, rfl, _, rfl, .inr ⟨false, rfl, ?_⟩⟩
          refine ⟨_, _, rfl, rfl, .inl ⟨by decide, by decide⟩, _, _, rfl, rfl, ?_⟩
          refine ⟨_, rfl, _, rfl, ?_⟩
          refine iteT ?_
          have ez : (fun i j : Int => V.int (i + j)) ((j : Nat) : Int) (2 * if false = true then 1 else 0) = V.int ((j : Nat) : Int) := by simp
          rw [ez]
          refine ⟨_, rfl, _, rfl, _, rfl, _, rfl, _, _, rfl, rfl, _, rfl, _, rfl, ls, by show 2 ≤ sizeLine; decide, fun t2 nt2 => ?_⟩
          have X7 := ex_new (o := HO.tup [V.str (Str.ofString ""), V.str (Str.ofString ")")]) nt2
          refine ⟨t2, _, rfl, .inr (sq_tup upd_same), rfl, rfl, _, rfl, ?_⟩
          rw [e1, if_pos rfl]
          by_cases cz : l.drop j = [] ∨ (l.drop j).take 1 = [41]
          · have hv : inV (V.str (SX.S ((l.drop j).take 1))) [V.str (Str.ofString ""), V.str (Str.ofString ")")] = true := by
              rcases cz with z | z
              · rw [z]
                rfl
              · rw [z]
                rfl
            rw [hv]
            have el2 : lend (l.drop j) = some (0, false) := by
              unfold lend
              rw [if_neg cc, if_pos cz]
            exact iteF ⟨j + 0, by omega, inv 0 false _ X7 el2⟩
          · have hv : inV (V.str (SX.S ((l.drop j).take 1))) [V.str (Str.ofString ""), V.str (Str.ofString ")")] = false := by
              cases hd : l.drop j with
              | nil => exact absurd (.inl hd) cz
              | cons x r =>
                have hx : x ≠ 41 := fun z => cz (.inr (by rw [hd, z]; rfl))
                have b1 : ((Str.ofString "") == SX.S ((x :: r).take 1)) = false := beq_eq_false_iff_ne.mpr fun z => by
                  have z : ([] : List Nat) = [x] := SX.S_inj z
                  cases z
                have b2 : ((Str.ofString ")") == SX.S ((x :: r).take 1)) = false := beq_eq_false_iff_ne.mpr fun z => hx (by
                  have z : [41] = [x] := SX.S_inj z
                  injection z with z
                  exact z.symm)
                show (((Str.ofString "") == SX.S ((x :: r).take 1)) || (((Str.ofString ")") == SX.S ((x :: r).take 1)) || false)) = false
                rw [b1, b2]
                rfl
            rw [hv]
            have el2 : lend (l.drop j) = none := by
              unfold lend
              rw [if_neg cc, if_neg cz]
            rw [el2] at erd
            exact iteT (qn erd.symm _ (X6.trans X7))
    · refine ifN (by omega) ?_
      have ei : l.drop i = [] := List.drop_eq_nil_of_le (by omega)
      rw [ei] at erd
      have e0 : ∀ (st : List (List Tr)) (due : Bool), lrdA [] st due = match st with
          | [ts] => if due = false ∧ isR0 ts = true then some ts else none
          | _ => none := fun st due => rfl
      rw [e0] at erd
      obtain ⟨g1, g2, g3, g4, g5⟩ := id hg
      refine ⟨_, rfl, _, rfl, ?_⟩
      cases due with
      | true =>
        refine iteT (iteT (qn ?_ H2 X3))
        rw [← erd]
        split
        · rfl
        · rfl
      | false =>
        refine iteF ?_
        refine ⟨_, rfl, _, _, rfl, (.inl ⟨_, ⟨(sq_lst hR), rfl⟩⟩), _, _, rfl, rfl, _, rfl, ?_⟩
        have hlen := hrs.len
        obtain ⟨top, stq, rfl⟩ := List.exists_cons_of_ne_nil g1
        cases stq with
        | cons nxt rest =>
          refine ifP (by simp; simp at hlen; omega) (iteT (qn ?_ H2 X3))
          rw [← erd]
        | nil =>
        obtain ⟨r1, rq, rfl, ⟨as, hr1, hS⟩, hrq⟩ := id hrs
        have eq0 : rq = [] := hrq
        subst eq0
        refine ifN (by simp) ?_
        have a0 : atI ([r1].reverse.map V.ref) 0 = some (.ref r1) := atI_nat (j := 0) rfl
        have g40 := g4 top List.mem_cons_self
        have hpt := pcsS_mem (row := top) (st := [top]) List.mem_cons_self
        have hlt := len_pcsL top
        have hnt := nsS_mem g3 List.mem_cons_self
        refine ⟨_, rfl, _, _, _, _, rfl, rfl, (sq_lst hR), a0, r1, as, top, rfl, hr1, hS, by omega, g40.1, g40.2, by omega, by omega, fun H3 X4 => ⟨_, rfl, ?_⟩⟩
        have erd : (if (false = false) ∧ isR0 top = true then some top else none) = lread l := erd
        cases hr : isR0 top with
        | false =>
          rw [hr, if_neg (by simp)] at erd
          exact iteT (qn erd.symm H3 (X3.trans X4))
        | true =>
          rw [hr, if_pos ⟨rfl, rfl⟩] at erd
          refine iteF ?_
          refine ⟨_, rfl, _, _, _, _, rfl, rfl, (sq_lst (X4 _ _ hR)), a0, r1, _, rfl, .inl ⟨sq_lst (X4 _ _ hr1), fun a na => ?_⟩⟩
          have X34 := X3.trans X4
          exact q top erd.symm a as _ (X34.trans (ex_new na)) (ex_fresh X34 na) upd_same ((hS.mono X4).mono (ex_new na))
theorem ok__law_read {P : Program} {w : World} {K : PySem.W.Frag} {mg : Str → Option Value} {base : Heap} (T : Env K mg) : Fc P w K mg base 76 (He.ga K "_law_read") [] (sp__law_read K ) := by
  obtain ⟨fd, D, F⟩ := fb__law_read T
  exact F.all (D.bindsN fun _ _ _ _ _ _ us hl => match us, hl with | [_], _ => rfl)
end
section
/-- no word of l is longer than k -/
def nb (l : List Nat) (k : Nat) : Prop := ∀ a b c : List Nat, l = a ++ (b ++ c) → 32 ∉ b → b.length ≤ k
theorem spl_step (acc : List Nat) (c : Nat) (r : List Nat) : TL.spl [32] 0 acc (c :: r) = if c = 32 then acc :: TL.spl [32] 0 [] r else TL.spl [32] 0 (acc ++ [c]) r := by
  show (if TL.pre [32] (c :: r) = true then acc :: TL.spl [32] 0 [] r else TL.spl [32] 0 (acc ++ [c]) r) = _
  have e : TL.pre [32] (c :: r) = decide (c = 32) := by
    unfold TL.pre
    show ([c] == [32]) = _
    by_cases h : c = 32 <;> simp [h]
  rw [e]
  by_cases h : c = 32 <;> simp [h]
theorem spl_words : ∀ (l acc : List Nat), 32 ∉ acc → TL.joinL [32] (TL.spl [32] 0 acc l) = acc ++ l ∧ ∀ w ∈ TL.spl [32] 0 acc l, 32 ∉ w
  | [], acc, h => ⟨by show acc = acc ++ []; rw [List.append_nil], fun w hw => by rw [List.mem_singleton.mp (show w ∈ [acc] from hw)]; exact h⟩
  | c :: r, acc, h => by
    rw [spl_step]
    by_cases e : c = 32
    · rw [if_pos e]
      obtain ⟨h1, h2⟩ := spl_words r [] (by simp)
      refine ⟨?_, fun w hw => ?_⟩
      · have ne := Mo.spl_ne [32] 0 [] r
        cases hs : TL.spl [32] 0 [] r with
        | nil => exact absurd hs ne
        | cons x t =>
          rw [hs] at h1
          show acc ++ (32 :: TL.joinL [32] (x :: t)) = _
          rw [h1, e]
          rfl
      · rcases List.mem_cons.mp hw with rfl | hw
        · exact h
        · exact h2 w hw
    · rw [if_neg e]
      obtain ⟨h1, h2⟩ := spl_words r (acc ++ [c]) (fun z => by
        rcases List.mem_append.mp z with z | z
        · exact h z
        · exact e (List.mem_singleton.mp z).symm)
      refine ⟨?_, h2⟩
      rw [h1]
      simp
theorem join_spl (l : List Nat) : TL.joinL [32] (TL.spl [32] 0 [] l) = l := (spl_words l [] (by simp)).1
end
section
def pres : List Tr → List Nat
  | [] => []
  | t :: r => t.txt ++ [44, 32] ++ pres r
def preT : List (List Tr) → List Nat
  | [] => []
  | row :: rest => preT rest ++ (pres row ++ [40])
def opnT : List (List Tr) → Bool → List Nat
  | [], _ => []
  | top :: rest, due => preT rest ++ (if due = true then pres top else TL.joinL [44, 32] (txtL top))
theorem join_snoc (t : Tr) : ∀ ts : List Tr, TL.joinL [44, 32] (txtL (ts ++ [t])) = pres ts ++ t.txt
  | [] => by
    show TL.joinL [44, 32] (txtL [t]) = _
    have e : txtL [t] = [t.txt] := by simp [txtL]
    rw [e]
    rfl
  | [x] => by
    have e : txtL ([x] ++ [t]) = [x.txt, t.txt] := by simp [txtL]
    rw [e]
    show x.txt ++ ([44, 32] ++ t.txt) = _
    simp [pres]
  | x :: y :: r => by
    have ih := join_snoc t (y :: r)
    have e : txtL (x :: y :: r ++ [t]) = x.txt :: y.txt :: txtL (r ++ [t]) := by simp [txtL]
    have e3 : txtL (y :: r ++ [t]) = y.txt :: txtL (r ++ [t]) := by simp [txtL]
    rw [e]
    show x.txt ++ ([44, 32] ++ TL.joinL [44, 32] (y.txt :: txtL (r ++ [t]))) = _
    rw [← e3, ih]
    have e4 : pres (x :: y :: r) = x.txt ++ [44, 32] ++ pres (y :: r) := by rw [pres]
    rw [e4]
    simp
theorem lovW_inv {w : List Nat} {m s : Nat} (h : lovWords (TL.spl [32] 0 [] w) = some (m, s)) : w = tailT m s := by
  have ej := join_spl w
  unfold lovWords at h
  split at h
  · rename_i w0 w1 w2 es
    rw [es] at ej
    split at h
    · rename_i c
      obtain ⟨c0, c1, c2⟩ := c
      split at h
      · rename_i a b ha hb
        cases h
        have e1 := num_inv ha
        have e2 := num_inv hb
        have f1 : w1 = 120 :: TL.numL m := by
          rw [← List.take_append_drop 1 w1, c1, e1]
          rfl
        have f2 : w2 = 43 :: TL.numL s := by
          rw [← List.take_append_drop 1 w2, c2, e2]
          rfl
        rw [← ej, c0, f1, f2]
        unfold tailT
        simp [TL.joinL]
      · cases h
    · cases h
  · cases h
theorem lshort_txt {c : Nat} {w : List Nat} {st : List (List Tr)} {s : Tr} {due : Bool} (h : lshort c w st = some s) (hg : GoodS st due) (hl : w.length ≤ 250) (hd : due ≠ decide (c = 41)) : opnT (lput s (lpop c st)) false = opnT st due ++ c :: w := by
  obtain ⟨ne, h9, hn, hw, ht⟩ := hg
  unfold lshort at h
  unfold lpop
  split at h
  · rename_i c4
    rw [if_pos c4]
    have hd : due = false := by
      cases due with
      | false => rfl
      | true => exact absurd (by rw [c4]; rfl) hd
    subst hd
    split at h
    · rename_i top nxt rest
      have h0 := hw top (by simp)
      obtain ⟨k1, k2, k3, k4, m, s', rfl, e⟩ := lovIn_good h hl h0.1 h0.2 (ht rfl)
      have ew := lovW_inv e
      show preT rest ++ TL.joinL [44, 32] (txtL (nxt ++ [Tr.ov top m s'])) = (preT rest ++ (pres nxt ++ [40])) ++ TL.joinL [44, 32] (txtL top) ++ c :: w
      rw [join_snoc, ov_txt top m s' (ht rfl), ew, c4]
      simp
    · cases h
  · rename_i c4
    rw [if_neg c4]
    have hd : due = true := by
      cases due with
      | true => rfl
      | false => exact absurd (by rw [decide_eq_false c4]) hd
    subst hd
    obtain ⟨n, hm, rfl⟩ := Option.map_eq_some_iff.mp h
    obtain ⟨top, rest, rfl⟩ := List.exists_cons_of_ne_nil ne
    show preT rest ++ TL.joinL [44, 32] (txtL (top ++ [Tr.at n])) = preT rest ++ pres top ++ c :: w
    rw [join_snoc, Tr.txt, momOf_inv hm]
    simp
end
section
theorem pres_join : ∀ {ts : List Tr}, ts ≠ [] → pres ts = TL.joinL [44, 32] (txtL ts) ++ [44, 32]
  | [t], _ => by
    have e : txtL [t] = [t.txt] := by simp [txtL]
    rw [e]
    show t.txt ++ [44, 32] ++ [] = t.txt ++ [44, 32]
    simp
  | t :: x :: r, _ => by
    have e : txtL (t :: x :: r) = t.txt :: x.txt :: txtL r := by simp [txtL]
    have e2 : txtL (x :: r) = x.txt :: txtL r := by simp [txtL]
    have ih := pres_join (ts := x :: r) (by simp)
    rw [pres, ih, e, e2]
    show _ = (t.txt ++ ([44, 32] ++ TL.joinL [44, 32] (x.txt :: txtL r))) ++ [44, 32]
    simp
theorem opn_true {st : List (List Tr)} (h : st.headD [] ≠ []) (ne : st ≠ []) : opnT st true = opnT st false ++ [44, 32] := by
  obtain ⟨top, rest, rfl⟩ := List.exists_cons_of_ne_nil ne
  show preT rest ++ pres top = preT rest ++ TL.joinL [44, 32] (txtL top) ++ [44, 32]
  rw [pres_join (show top ≠ [] from h), List.append_assoc]
theorem preT_opn {st : List (List Tr)} (ne : st ≠ []) : preT st = opnT st true ++ [40] := by
  obtain ⟨top, rest, rfl⟩ := List.exists_cons_of_ne_nil ne
  show preT rest ++ (pres top ++ [40]) = preT rest ++ pres top ++ [40]
  rw [List.append_assoc]
theorem lput_head {s : Tr} {st : List (List Tr)} (ne : lput s st ≠ []) : (lput s st).headD [] ≠ [] := by
  cases st with
  | nil => exact absurd rfl ne
  | cons row rest =>
    show row ++ [s] ≠ []
    simp
theorem itm_split (r : List Nat) : itm r ++ r.drop (itm r).length = r := by
  have e := itm_take r
  conv => lhs; lhs; rw [← e]
  exact List.take_append_drop _ _
/-- one step of the law's reader -/
theorem lstp_txt {c : Nat} {r : List Nat} {st st' : List (List Tr)} {due d : Bool} {k : Nat} (h : lstp c r st due = some (k, st', d)) (hg : GoodS st due) (hi : (itm r).length ≤ 250) : GoodS st' d ∧ opnT st' d ++ (c :: r).drop k = opnT st due ++ c :: r := by
  have hg' := hg
  obtain ⟨ne, h9, hn, hw, ht⟩ := hg
  unfold lstp at h
  split at h
  · rename_i c4
    subst c4
    split at h
    · rename_i hd
      cases h
      obtain ⟨hd, h8⟩ := hd
      subst hd
      refine ⟨⟨by simp, by rw [List.length_cons]; omega, ⟨by simp [nestL]; omega, hn⟩, fun row hr => ?_, nofun⟩, ?_⟩
      · rcases List.mem_cons.mp hr with rfl | hr
        · exact ⟨by unfold wkL; trivial, by unfold fitL; trivial⟩
        · exact hw row hr
      · show preT st ++ pres [] ++ r = opnT st true ++ 40 :: r
        rw [preT_opn ne]
        simp [pres]
    · cases h
  · split at h
    · cases h
    · rename_i hd
      split at h
      · cases h
      · rename_i s hs
        split at h
        · cases h
        · rename_i k2 d2 he
          cases h
          have hd : due ≠ decide (c = 41) := hd
          obtain ⟨g1, g2, _⟩ := lshort_good hs hg' hi hd
          have et := lshort_txt hs hg' hi hd
          have es := itm_split r
          have hne : lput s (lpop c st) ≠ [] := g1.1
          unfold lend at he
          split at he
          · rename_i e2
            cases he
            refine ⟨g1, ?_⟩
            have e3 : (c :: r).drop (1 + (itm r).length + 2) = (r.drop (itm r).length).drop 2 := by
              rw [List.drop_drop, show 1 + (itm r).length + 2 = ((itm r).length + 2) + 1 by omega, List.drop_succ_cons]
            rw [opn_true (lput_head hne) hne, et, e3]
            conv => rhs; rw [← es, ← List.take_append_drop 2 (r.drop (itm r).length), e2]
            simp
          · split at he
            · cases he
              refine ⟨g2, ?_⟩
              have e3 : (c :: r).drop (1 + (itm r).length + 0) = r.drop (itm r).length := by
                rw [show 1 + (itm r).length + 0 = (itm r).length + 1 by omega, List.drop_succ_cons]
              rw [et, e3]
              conv => rhs; rw [← es]
              simp
            · cases he
theorem itm_of {l : List Nat} (hi : ∀ i, (itm (l.drop i)).length ≤ 250) (k : Nat) : ∀ i, (itm ((l.drop k).drop i)).length ≤ 250 := fun i => by
  rw [List.drop_drop]
  exact hi _
theorem lrd_sound : ∀ (f : Nat) {r : List Nat} {st : List (List Tr)} {due : Bool} {ts : List Tr}, r.length ≤ f → lrd f r st due = some ts → GoodS st due → (∀ i, (itm (r.drop i)).length ≤ 250) → TL.joinL [44, 32] (txtL ts) = opnT st due ++ r ∧ wkL ts ∧ isR0 ts = true ∧ nestL ts ≤ 8 ∧ ts ≠ []
  | f, [], st, due, ts, _, h, hg, _ => by
    have e : lrd f [] st due = (match (generalizing := false) st with
      | [ts] => if due = false ∧ isR0 ts = true then some ts else none
      | _ => none) := by
      cases f <;> rfl
    rw [e] at h
    split at h
    · rename_i ts'
      split at h
      · rename_i c
        cases h
        obtain ⟨hd, hr⟩ := c
        subst hd
        obtain ⟨_, _, hn, hw, ht⟩ := hg
        refine ⟨?_, (hw ts (by simp)).1, hr, ?_, ht rfl⟩
        · show _ = preT [] ++ TL.joinL [44, 32] (txtL ts) ++ []
          simp [preT]
        · have := hn.1
          simp at this
          omega
      · cases h
    · cases h
  | 0, c :: r, st, due, ts, hl, _, _, _ => by simp at hl
  | f + 1, c :: r, st, due, ts, hl, h, hg, hi => by
    have e9 : lrd (f + 1) (c :: r) st due = (match (generalizing := false) lstp c r st due with
      | some (k, st', d) => lrd f ((c :: r).drop k) st' d
      | none => none) := rfl
    rw [e9] at h
    split at h
    · rename_i k st' d e
      have h5 := (lstp_pos e).1
      obtain ⟨g1, g2⟩ := lstp_txt e hg (hi 1)
      have ih := lrd_sound f (by rw [List.length_drop, List.length_cons] at *; omega) h g1 (itm_of hi k)
      rw [g2] at ih
      exact ih
    · cases h
/-- what the law reads is a spread's text -/
theorem lread_sound {l : List Nat} {ts : List Tr} (h : lread l = some ts) (hi : ∀ i, (itm (l.drop i)).length ≤ 250) : rowT (txtL ts) = l ∧ okL_ ts ∧ sprB ts = true ∧ nestL ts ≤ 8 ∧ ts ≠ [] := by
  have hg : GoodS [[]] true := ⟨by simp, by decide, ⟨by simp [nestL], trivial⟩, fun row hrow => by rw [List.mem_singleton.mp hrow]; exact ⟨by unfold wkL; trivial, by unfold fitL; trivial⟩, nofun⟩
  obtain ⟨h1, h2, h3, h4, h5⟩ := lrd_sound l.length (Nat.le_refl _) h hg hi
  obtain ⟨h6, h7⟩ := isR0_spr h2 h3
  refine ⟨?_, h6, h7, h4, h5⟩
  unfold rowT
  rw [if_neg (by rw [txtL_map]; intro z; exact h5 (List.map_eq_nil_iff.mp z)), h1]
  simp [opnT, preT, pres]
theorem lovW_tail (m s : Nat) : lovWords (TL.spl [32] 0 [] (tailT m s)) = some (m, s) := by
  have e : tailT m s = [] ++ 32 :: ((120 :: TL.numL m) ++ 32 :: (43 :: TL.numL s)) := by
    unfold tailT
    simp
  rw [e, Mo.spl_cut _ (by simp), Mo.spl_cut _ (by simp [num_free]), Mo.spl_one (by simp [num_free])]
  rw [lovW3, if_pos ⟨rfl, rfl, rfl⟩]
  show (match Mo.num? (TL.numL m), Mo.num? (TL.numL s) with
    | some m, some s => some (m, s)
    | _, _ => none) = _
  rw [Mo.num_num, Mo.num_num]
theorem lend_sep {w : List Nat} {k : Nat} {d : Bool} (h : lend w = some (k, d)) : atSep w := by
  unfold lend at h
  split at h
  · rename_i e
    obtain ⟨c, b, rfl⟩ : ∃ c b, w = c :: b := by
      cases w with
      | nil => cases e
      | cons c b => exact ⟨c, b, rfl⟩
    refine .inr ⟨c, b, rfl, ?_⟩
    have : c = 44 := by
      have := congrArg List.head? e
      simp at this
      exact this
    rw [this]
    rfl
  · split at h
    · rename_i e
      rcases e with rfl | e
      · exact .inl rfl
      · obtain ⟨c, b, rfl⟩ : ∃ c b, w = c :: b := by
          cases w with
          | nil => cases e
          | cons c b => exact ⟨c, b, rfl⟩
        refine .inr ⟨c, b, rfl, ?_⟩
        have : c = 41 := by
          have := congrArg List.head? e
          simp at this
          exact this
        rw [this]
        rfl
    · cases h
theorem lstp_at {c : Nat} {r w : List Nat} {n k : Nat} {d : Bool} {top : List Tr} {st : List (List Tr)} (hc : 48 ≤ c ∧ c ≤ 57) (hr : noSep r) (hw : lend w = some (k, d)) (h : Mo.momOf (c :: r) = some n) : lstp c (r ++ w) (top :: st) true = some (1 + r.length + k, (top ++ [.at n]) :: st, d) := by
  unfold lstp
  have e1 : lshort c (itm (r ++ w)) (top :: st) = some (.at n) := by
    rw [itm_app hr (lend_sep hw)]
    unfold lshort
    rw [if_neg (by omega), h]
    rfl
  have e2 : lend ((r ++ w).drop (itm (r ++ w)).length) = some (k, d) := by
    rw [itm_app hr (lend_sep hw), List.drop_left, hw]
  rw [if_neg (by omega), if_neg (by rw [decide_eq_false (by omega)]; decide), e1]
  dsimp only
  rw [e2]
  dsimp only
  rw [itm_app hr (lend_sep hw)]
  unfold lpop
  rw [if_neg (by omega)]
  rfl
theorem lstp_ov {w : List Nat} {m s k : Nat} {d : Bool} {top nxt : List Tr} {st : List (List Tr)} (hw : lend w = some (k, d)) (h : 2 ≤ m ∧ isR0 top = true ∧ e0L top < s + b0L top) : lstp 41 (tailT m s ++ w) (top :: nxt :: st) false = some (1 + (tailT m s).length + k, (nxt ++ [.ov top m s]) :: st, d) := by
  have hs := tail_sep m s
  unfold lstp
  have e1 : lshort 41 (itm (tailT m s ++ w)) (top :: nxt :: st) = some (.ov top m s) := by
    rw [itm_app hs (lend_sep hw)]
    unfold lshort
    rw [if_pos rfl]
    show lovIn top (tailT m s) = _
    unfold lovIn
    rw [lovW_tail]
    exact if_pos h
  have e2 : lend ((tailT m s ++ w).drop (itm (tailT m s ++ w)).length) = some (k, d) := by
    rw [itm_app hs (lend_sep hw), List.drop_left, hw]
  rw [if_neg (by decide), if_neg (by decide), e1]
  dsimp only
  rw [e2]
  dsimp only
  rw [itm_app hs (lend_sep hw)]
  rfl
theorem drop_appk (c : Nat) (a w : List Nat) (k : Nat) : (c :: (a ++ w)).drop (1 + a.length + k) = w.drop k := by
  rw [show 1 + a.length + k = (a.length + k) + 1 by omega, List.drop_succ_cons, ← List.drop_drop, List.drop_left]
mutual
theorem ld_t : ∀ {t : Tr} {w : List Nat} {k : Nat} {d : Bool} {top : List Tr} {st : List (List Tr)}, t.wk → lend w = some (k, d) → st.length + 1 + t.nest ≤ 9 → lrdA (t.txt ++ w) (top :: st) true = lrdA (w.drop k) ((top ++ [t]) :: st) d
  | .at n, w, k, d, top, st, _, hw, _ => by
    unfold Tr.txt
    obtain ⟨c, r, e, hc⟩ := shw_head n
    have hr : noSep r := fun x hx => shw_sep n x (by rw [e]; exact List.mem_cons_of_mem _ hx)
    have hm : Mo.momOf (c :: r) = some n := by rw [← e]; exact Mo.momOf_shw n
    rw [e, List.cons_append, lrdA_cons, lstp_at hc hr hw hm]
    dsimp only
    rw [drop_appk]
  | .ov ps m s, w, k, d, top, st, ho, hw, hd => by
    unfold Tr.wk at ho
    obtain ⟨h1, h2, h3, h4, h5⟩ := ho
    have hn2 : (Tr.ov ps m s).nest = 1 + nestL ps := by unfold Tr.nest; rfl
    rw [ov_txt _ _ _ h1]
    have e1 : 40 :: (TL.joinL [44, 32] (txtL ps) ++ 41 :: tailT m s) ++ w = 40 :: (TL.joinL [44, 32] (txtL ps) ++ (41 :: (tailT m s ++ w))) := by simp
    rw [e1, lrdA_cons]
    have e2 : lstp 40 (TL.joinL [44, 32] (txtL ps) ++ (41 :: (tailT m s ++ w))) (top :: st) true = some (1, [] :: top :: st, true) := by
      unfold lstp
      rw [if_pos rfl, if_pos ⟨rfl, by rw [List.length_cons]; omega⟩]
    rw [e2]
    dsimp only
    show lrdA (TL.joinL [44, 32] (txtL ps) ++ (41 :: (tailT m s ++ w))) ([] :: top :: st) true = _
    rw [ld_row h5 h1 (k := 0) (d := false) (by unfold lend; rw [if_neg (by simp), if_pos (.inr (by simp))]) (by rw [List.length_cons]; omega), List.nil_append, List.drop_zero, lrdA_cons, lstp_ov hw ⟨h2, h4, h3⟩]
    dsimp only
    rw [drop_appk]
theorem ld_row : ∀ {ts : List Tr} {w : List Nat} {k : Nat} {d : Bool} {top : List Tr} {st : List (List Tr)}, wkL ts → ts ≠ [] → lend w = some (k, d) → st.length + 1 + nestL ts ≤ 9 → lrdA (TL.joinL [44, 32] (txtL ts) ++ w) (top :: st) true = lrdA (w.drop k) ((top ++ ts) :: st) d
  | [], w, k, d, top, st, _, ne, _, _ => absurd rfl ne
  | [t], w, k, d, top, st, ho, _, hw, hd => by
    have e : txtL [t] = [t.txt] := by simp [txtL]
    have n1 : nestL [t] = t.nest := by simp [nestL]
    unfold wkL at ho
    rw [e]
    exact ld_t ho.1 hw (by omega)
  | t :: x :: r, w, k, d, top, st, ho, _, hw, hd => by
    have n1 : nestL (t :: x :: r) = max t.nest (nestL (x :: r)) := by simp [nestL]
    have e : txtL (t :: x :: r) = t.txt :: x.txt :: txtL r := by simp [txtL]
    have e2 : txtL (x :: r) = x.txt :: txtL r := by simp [txtL]
    unfold wkL at ho
    rw [e]
    have e3 : TL.joinL [44, 32] (t.txt :: x.txt :: txtL r) ++ w = t.txt ++ ([44, 32] ++ (TL.joinL [44, 32] (txtL (x :: r)) ++ w)) := by
      rw [e2]
      show (t.txt ++ ([44, 32] ++ TL.joinL [44, 32] (x.txt :: txtL r))) ++ w = _
      simp
    rw [e3, ld_t ho.1 (k := 2) (d := true) (by unfold lend; rw [if_pos (by simp)]) (by omega)]
    show lrdA (TL.joinL [44, 32] (txtL (x :: r)) ++ w) ((top ++ [t]) :: st) true = _
    rw [ld_row ho.2 (by simp) hw (by omega)]
    simp
end
theorem lread_text {ts : List Tr} (ho : okL_ ts) (hn : nestL ts ≤ 8) (hb : sprB ts = true) (ne : ts ≠ []) : lread (rowT (txtL ts)) = some ts := by
  obtain ⟨h1, h2⟩ := spr_isR0 ho hb
  unfold rowT
  rw [if_neg (by rw [txtL_map]; intro z; exact ne (List.map_eq_nil_iff.mp z))]
  have e := ld_row (w := []) (k := 0) (d := false) (top := []) (st := []) h1 ne rfl (by simp; omega)
  rw [List.append_nil] at e
  unfold lread
  rw [e]
  show (if false = false ∧ isR0 ([] ++ ts) = true then some ([] ++ ts) else none) = some ts
  rw [List.nil_append, if_pos ⟨rfl, h2⟩]
/-- the law reads what the program reads -/
theorem lread_readS {l : List Nat} (hi : ∀ i, (itm (l.drop i)).length ≤ 250) (n45 : l ≠ [45]) : readS l = lread l := by
  cases e : lread l with
  | some ts =>
    obtain ⟨h1, h2, h3, h4, _⟩ := lread_sound e hi
    rw [← h1]
    exact read_text h2 h4 h3
  | none =>
    cases e2 : readS l with
    | none => rfl
    | some ts =>
      exfalso
      obtain ⟨h1, h2⟩ := readS_inv e2
      obtain ⟨h3, h4, _, _⟩ := readS_good e2 hi
      have ne : ts ≠ [] := fun z => n45 (by rw [← h1, z]; rfl)
      rw [← h1, lread_text h3 h4 h2 ne] at e
      cases e
end
section
theorem itm_app_le (a w : List Nat) : (itm (a ++ w)).length ≤ (itm a).length + (itm w).length := by
  induction a with
  | nil => simp [itm]
  | cons x r ih =>
    cases h : isSep x with
    | true =>
      have e : itm (x :: (r ++ w)) = [] := by
        unfold itm
        rw [List.takeWhile_cons, h]
        rfl
      rw [List.cons_append, e]
      exact Nat.zero_le _
    | false =>
      have e : ∀ z : List Nat, itm (x :: z) = x :: itm z := fun z => by
        unfold itm
        rw [List.takeWhile_cons, h]
        rfl
      rw [List.cons_append, e, e, List.length_cons, List.length_cons]
      omega
theorem seg_cat {m n : Nat} {a w : List Nat} (ha : SegOk m a) (hw : SegOk n w) : SegOk (m + n) (a ++ w) := fun i => by
  rw [List.drop_append]
  have h1 := itm_app_le (a.drop i) (w.drop (i - a.length))
  have h2 := ha i
  have h3 := hw (i - a.length)
  omega
theorem seg_short {n : Nat} {a : List Nat} (h : a.length ≤ n) : SegOk n a := fun i => by
  have := itm_len (a.drop i)
  rw [List.length_drop] at this
  omega
theorem SegOk.le {m n : Nat} {a : List Nat} (h : SegOk m a) (l : m ≤ n) : SegOk n a := fun i => Nat.le_trans (h i) l
theorem SegOk.drop {n : Nat} {a : List Nat} (h : SegOk n a) (k : Nat) : SegOk n (a.drop k) := fun i => by
  rw [List.drop_drop]
  exact h _
theorem SegOk.take {n : Nat} {a : List Nat} (h : SegOk n a) (k : Nat) : SegOk n (a.take k) := fun i => by
  have e : a.drop i = (a.take k).drop i ++ (a.drop k).drop (i - (a.take k).length) := by
    conv => lhs; rw [← List.take_append_drop k a]
    exact List.drop_append
  have h1 := itm_pre ((a.take k).drop i) ((a.drop k).drop (i - (a.take k).length))
  rw [← e] at h1
  exact Nat.le_trans h1 (h i)
theorem seg_sep {n : Nat} : ∀ {a w : List Nat}, (∀ c ∈ a, isSep c = true) → SegOk n w → SegOk n (a ++ w)
  | [], w, _, h => h
  | x :: r, w, ha, h => seg_cons (ha x List.mem_cons_self) (seg_sep (fun c hc => ha c (List.mem_cons_of_mem _ hc)) h)
mutual
/-- words of n signs at most -/
def Tr.sg (n : Nat) : Tr → Prop
  | .at x => (Mo.shw x).length < n
  | .ov ps m s => ps ≠ [] ∧ (tailT m s).length ≤ n ∧ sgL n ps
def sgL (n : Nat) : List Tr → Prop
  | [] => True
  | t :: r => t.sg n ∧ sgL n r
end
theorem sgL_nil {n : Nat} : sgL n [] := by
  unfold sgL
  trivial
theorem sgL_one {n : Nat} {t : Tr} (h : t.sg n) : sgL n [t] := by
  unfold sgL
  exact ⟨h, sgL_nil⟩
theorem sgL_mem {n : Nat} {t : Tr} : ∀ {ts : List Tr}, sgL n ts → t ∈ ts → t.sg n
  | x :: r, h, hm => by
    unfold sgL at h
    rcases List.mem_cons.mp hm with rfl | hm
    · exact h.1
    · exact sgL_mem h.2 hm
theorem sgL_of {n : Nat} : ∀ {ts : List Tr}, (∀ t ∈ ts, t.sg n) → sgL n ts
  | [], _ => sgL_nil
  | t :: r, h => by
    unfold sgL
    exact ⟨h t List.mem_cons_self, sgL_of fun x hx => h x (List.mem_cons_of_mem _ hx)⟩
mutual
theorem sg_t {n : Nat} : ∀ {t : Tr} {p w : List Nat}, t.sg n → noSep p → p.length ≤ 1 → 1 ≤ n → atSep w → SegOk n w → SegOk n (p ++ (t.txt ++ w))
  | .at x, p, w, hs, hp, hl, _, hw, h => by
    unfold Tr.sg at hs
    unfold Tr.txt
    rw [← List.append_assoc]
    exact seg_app (noSep_app hp (shw_sep x)) (by rw [List.length_append]; omega) hw h
  | .ov ps m s, p, w, hs, hp, hl, h1, hw, h => by
    unfold Tr.sg at hs
    rw [ov_txt _ _ _ hs.1]
    have e1 : 40 :: (TL.joinL [44, 32] (txtL ps) ++ 41 :: tailT m s) ++ w = 40 :: ([] ++ (TL.joinL [44, 32] (txtL ps) ++ (41 :: (tailT m s ++ w)))) := by simp
    rw [e1]
    refine seg_app hp (by omega) (.inr ⟨40, _, rfl, rfl⟩) (seg_cons rfl ?_)
    exact sg_row hs.2.2 (fun c hc => by cases hc) (Nat.zero_le _) h1 (.inr ⟨41, _, rfl, rfl⟩) (seg_cons rfl (seg_app (tail_sep m s) hs.2.1 hw h))
theorem sg_row {n : Nat} : ∀ {ts : List Tr} {p w : List Nat}, sgL n ts → noSep p → p.length ≤ 1 → 1 ≤ n → atSep w → SegOk n w → SegOk n (p ++ (TL.joinL [44, 32] (txtL ts) ++ w))
  | [], p, w, _, hp, hl, _, hw, h => by
    show SegOk n (p ++ w)
    exact seg_app hp (by omega) hw h
  | [t], p, w, hs, hp, hl, h1, hw, h => by
    have e : txtL [t] = [t.txt] := by simp [txtL]
    unfold sgL at hs
    rw [e]
    exact sg_t hs.1 hp hl h1 hw h
  | t :: x :: r, p, w, hs, hp, hl, h1, hw, h => by
    unfold sgL at hs
    have ih := sg_row (ts := x :: r) (p := [32]) (w := w) hs.2 (noSep_cons rfl fun c hc => by cases hc) (Nat.le_refl _) h1 hw h
    have e : txtL (t :: x :: r) = t.txt :: x.txt :: txtL r := by simp [txtL]
    have e3 : txtL (x :: r) = x.txt :: txtL r := by simp [txtL]
    rw [e]
    show SegOk n (p ++ ((t.txt ++ ([44, 32] ++ TL.joinL [44, 32] (x.txt :: txtL r))) ++ w))
    rw [← e3]
    have e4 : t.txt ++ ([44, 32] ++ TL.joinL [44, 32] (txtL (x :: r))) ++ w = t.txt ++ (44 :: ([32] ++ (TL.joinL [44, 32] (txtL (x :: r)) ++ w))) := by simp
    rw [e4]
    exact sg_t hs.1 hp hl h1 (.inr ⟨44, _, rfl, rfl⟩) (seg_cons rfl ih)
end
theorem sg_text {n : Nat} {ts : List Tr} (hs : sgL n ts) (h1 : 1 ≤ n) : SegOk n (rowT (txtL ts)) := by
  cases ts with
  | nil =>
    have e : rowT (txtL []) = [45] := by unfold txtL rowT; rfl
    rw [e]
    exact seg_short (by simpa using h1)
  | cons t r =>
    have e : rowT (txtL (t :: r)) = [] ++ (TL.joinL [44, 32] (txtL (t :: r)) ++ []) := by
      rw [List.nil_append, List.append_nil]
      exact if_neg (by rw [txtL_map]; simp)
    rw [e]
    exact sg_row hs (fun c hc => by cases hc) (Nat.zero_le _) h1 (.inl rfl) (seg_nil _)
mutual
theorem sg_len {n : Nat} : ∀ {t : Tr}, t.sg n → t.txt.length + 2 ≤ t.pcs * (n + 4)
  | .at x, h => by
    unfold Tr.sg at h
    unfold Tr.txt Tr.pcs
    omega
  | .ov ps m s, h => by
    unfold Tr.sg at h
    obtain ⟨h1, h2, h3⟩ := h
    have ih := sgL_len h3 h1
    rw [ov_txt _ _ _ h1]
    unfold Tr.pcs
    rw [Nat.add_mul]
    simp only [List.length_cons, List.length_append]
    omega
theorem sgL_len {n : Nat} : ∀ {ts : List Tr}, sgL n ts → ts ≠ [] → (TL.joinL [44, 32] (txtL ts)).length + 2 ≤ pcsL ts * (n + 4)
  | [], _, ne => absurd rfl ne
  | [t], h, _ => by
    unfold sgL at h
    have e : txtL [t] = [t.txt] := by simp [txtL]
    rw [e, pcsL_one]
    exact sg_len h.1
  | t :: x :: r, h, _ => by
    unfold sgL at h
    have ih := sgL_len h.2 (by simp)
    have ht := sg_len h.1
    have e : txtL (t :: x :: r) = t.txt :: x.txt :: txtL r := by simp [txtL]
    have e3 : txtL (x :: r) = x.txt :: txtL r := by simp [txtL]
    rw [e]
    show (t.txt ++ ([44, 32] ++ TL.joinL [44, 32] (x.txt :: txtL r))).length + 2 ≤ _
    rw [← e3]
    have e5 : pcsL (t :: x :: r) = t.pcs + pcsL (x :: r) := by simp [pcsL]
    rw [e5, Nat.add_mul]
    simp only [List.length_append, List.length_cons, List.length_nil]
    omega
end
theorem sg_tlen {n : Nat} {ts : List Tr} (h : sgL n ts) : (rowT (txtL ts)).length ≤ pcsL ts * (n + 4) + 1 := by
  by_cases h0 : ts = []
  · subst h0
    have e : rowT (txtL []) = [45] := by unfold txtL rowT; rfl
    rw [e]
    exact Nat.le_add_left _ _
  · have := sgL_len h h0
    have e : rowT (txtL ts) = TL.joinL [44, 32] (txtL ts) := if_neg (by rw [txtL_map]; intro z; exact h0 (List.map_eq_nil_iff.mp z))
    rw [e]
    omega
mutual
/-- what was drawn has short words -/
theorem sg_of : ∀ {t : Tr}, t.ok → (∀ n ∈ t.moms, n < 10 ^ 30) → t.sg 44
  | .at n, _, h => by
    unfold Tr.sg
    unfold Tr.moms at h
    have := Mo.shw_len (k := 30) (by decide) (h n List.mem_cons_self)
    omega
  | .ov ps m s, ho, h => by
    have hf := ov_facts ho
    unfold Tr.ok at ho
    obtain ⟨h1, h2, h3, h4, h5, h6, h7⟩ := ho
    unfold Tr.moms at h
    obtain ⟨n, hn⟩ : ∃ n, n ∈ momsL ps := ⟨_, headD_mem (momsL_ne h7 h1)⟩
    have hs := h (n + 1 * s) (mem_overN.mpr ⟨1, n, by omega, hn, rfl⟩)
    have l1 := TL.numL_len (k := 4) (by decide) (show m < 10 ^ 4 by have := hf.2.2.1; omega)
    have l2 := TL.numL_len (k := 30) (by decide) (show s < 10 ^ 30 by omega)
    unfold Tr.sg
    refine ⟨h1, ?_, sgL_ok h7 fun k hk => ?_⟩
    · unfold tailT
      simp
      omega
    · have := h (k + 0 * s) (mem_overN.mpr ⟨0, k, by omega, hk, rfl⟩)
      omega
theorem sgL_ok : ∀ {ts : List Tr}, okL_ ts → (∀ n ∈ momsL ts, n < 10 ^ 30) → sgL 44 ts
  | [], _, _ => sgL_nil
  | t :: r, ho, h => by
    unfold okL_ at ho
    unfold momsL at h
    unfold sgL
    exact ⟨sg_of ho.1 fun n hn => h n (List.mem_append.mpr (.inl hn)), sgL_ok ho.2 fun n hn => h n (List.mem_append.mpr (.inr hn))⟩
end
end
section
def sgnS : Str := Str.ofString "0123456789:,() x+-XaZ_.\n;"
theorem sgn_at (d : Nat) (h : d < 25) : ∃ c, atI sgnS.cps.toList (d : Int) = some c := by
  have z : ∀ d ∈ List.range 25, (atI sgnS.cps.toList ((d : Nat) : Int)).isSome = true := by decide +kernel
  exact Option.isSome_iff_exists.mp (z d (List.mem_range.mpr h))
def sp__law_signs (K : PySem.W.Frag) : Sp := fun vs H Q _ => ∃ (p : Addr) (l : List Nat) (n : Nat), vs = [.ref p, .str (SX.S l)] ∧ Pot H p ∧ l.length ≤ 9000 ∧ SegOk n l ∧ ∀ (l' : List Nat) H', l'.length ≤ l.length + 1 → SegOk (2 * n + 2) l' → PotOn H H' p → Q (.str (SX.S l')) H'
theorem fb__law_signs {P : Program} {w : World} {K : PySem.W.Frag} {mg : Str → Option Value} {base : Heap} (T : Env K mg) : ∃ fd, FunD K "_law_signs" "_law_signs" (defArgs s__law_signs) (defBody s__law_signs) (defScope s__law_signs) [] [] (He.ga K "_law_signs") fd ∧ Fb P w K mg base 2 (He.ga K "_law_signs") fd ["_law_pot_here", "_law_text_here"] (sp__law_signs K) := by
  obtain ⟨fd, F⟩ := T.f__law_signs
  refine ⟨fd, F, fb_of F sc__law_signs (fun vs H Q E h => ?_) (fun cdv A outer s H vs Q E hr h => ?_)⟩
  · obtain ⟨p, l, n, rfl, _⟩ := h
    rfl
  · obtain ⟨p, l, n, rfl, hp, hl, hs, q⟩ := h
    refine ⟨_, (pss_cons (ps_set (i := 2) sc__law_signs.nd rfl (Or.inl rfl) (c_call (ok__law_draw T) (hr.mono (by decide)) T.g__law_draw T.k__law_draw takes0 (pa_cons (pv 0) (pa_cons pe_int pa_nil))))
      (pss_cons (ps_set (i := 3) sc__law_signs.nd rfl (Or.inl rfl) (c_call (ok__law_draw T) (hr.mono (by decide)) T.g__law_draw T.k__law_draw takes0 (pa_cons (pv 0) (pa_cons (pe_op op_add (pe_callB call_len (by rfl) T.n_len (by decide +kernel) (pa_cons (pv 1) pa_nil)) pe_int) pa_nil))))
      (pss_cons (ps_set (i := 4) sc__law_signs.nd rfl (Or.inl rfl) (pe_ix ix_str pe_str (c_call (ok__law_draw T) (hr.mono (by decide)) T.g__law_draw T.k__law_draw takes0 (pa_cons (pv 0) (pa_cons pe_int pa_nil))) (fun _ _ => rfl)))
      (pss_cons (ps_if (pt_cmpR op_eq (pv 2) pe_int (nomark _))
      (pss_one (ps_ret (pe_op op_add_str (pe_op op_add_str (pe_slice sl_str (pv 1) po_none (po_some (pv 3))) (pv 4)) (pe_slice sl_str (pv 1) (po_some (pv 3)) po_none))))
      pss_nil)
      (pss_cons (ps_if (pt_cmpR op_eq (pv 2) pe_int (nomark _))
      (pss_one (ps_ret (pe_op op_add_str (pe_slice sl_str (pv 1) po_none (po_some (pv 3))) (pe_slice sl_str (pv 1) (po_some (pe_op op_add (pv 3) pe_int)) po_none))))
      pss_nil)
      (pss_cons (ps_if (pt_cmpR op_eq (pv 2) pe_int (nomark _))
      (pss_one (ps_ret (pe_op op_add_str (pe_op op_add_str (pe_slice sl_str (pv 1) po_none (po_some (pv 3))) (pv 4)) (pe_slice sl_str (pv 1) (po_some (pe_op op_add (pv 3) pe_int)) po_none))))
      pss_nil)
      (pss_one (ps_ret (pe_op op_add_str (pe_op op_add_str (pe_slice sl_str (pv 1) po_none (po_some (pv 3))) (pe_revS (pe_slice sl_str (pv 1) (po_some (pv 3)) (po_some (pe_op op_add (pv 3) pe_int))))) (pe_slice sl_str (pv 1) (po_some (pe_op op_add (pv 3) pe_int)) po_none)))))))))), ?_⟩
    have ls : (SX.S l).length ≤ sizeLine := sz_big (by rw [SX.S_len]; omega)
    refine ⟨_, rfl, _, _, rfl, hp, (by decide), (by decide), fun w H1 w0 w1 P1 => ?_⟩
    refine ⟨_, rfl, _, rfl, _, _, rfl, ⟨ls, rfl⟩, _, _, rfl, rfl, p, _, rfl, P1.1, (by rw [SX.S_len]; omega), (by rw [SX.S_len]; omega), fun k H2 k0 k1 P2 => ?_⟩
    rw [SX.S_len] at k1
    obtain ⟨k, rfl⟩ := Int.eq_ofNat_of_zero_le k0
    have P12 := P1.trans P2
    refine ⟨_, rfl, p, _, rfl, P12.1, (by decide), (by decide), fun e H3 e0 e1 P3 => ?_⟩
    obtain ⟨e, rfl⟩ := Int.eq_ofNat_of_zero_le e0
    obtain ⟨c, hc⟩ := sgn_at e (by omega)
    have P13 := P12.trans P3
    refine ⟨_, _, _, rfl, rfl, by decide, hc, ?_⟩
    rw [show (Str.mk #[c]) = SX.S [c] from rfl]
    have h2 : SegOk 1 [c] := seg_short (Nat.le_refl _)
    have n1 : ((k : Int) + 1) = ((k + 1 : Nat) : Int) := by omega
    have n2 : ((k : Int) + 2) = ((k + 2 : Nat) : Int) := by omega
    have q := fun l' a b => q l' H3 a b P13
    have sb : ∀ n : Nat, n ≤ 20000 → n ≤ sizeLine := fun n h => sz_big (by omega)
    clear P12 P13 P1 P2 P3
    rcases (by omega : w = 0 ∨ w = 1 ∨ w = 2 ∨ w = 3) with rfl | rfl | rfl | rfl
    · refine ⟨_, rfl, rfl, _, rfl, _, rfl, _, rfl, _, rfl, _, rfl, ls, _, rfl, _, _, rfl, rfl, ?_⟩
      rw [Mo.cut_to]
      refine ⟨sb _ (by rw [SX.S_len, SX.S_len, List.length_take]; simp; omega), ?_⟩
      rw [SX.S_cat]
      refine ⟨_, rfl, _, rfl, _, rfl, _, rfl, ls, _, _, rfl, rfl, ?_⟩
      rw [Mo.cut_from]
      refine ⟨sb _ (by rw [SX.S_len, SX.S_len, List.length_append, List.length_take, List.length_drop]; simp; omega), ?_⟩
      rw [SX.S_cat]
      refine q _ ?_ (((hs.take k).le (Nat.le_refl n) |> fun h => seg_cat (seg_cat h h2) (hs.drop k)).le (by omega))
      rw [List.length_append, List.length_append, List.length_take, List.length_drop]
      simp
      omega
    · refine ⟨_, rfl, rfl, _, rfl, _, rfl, rfl, _, rfl, _, rfl, _, rfl, _, rfl, _, rfl, ls, _, rfl, _, rfl, _, _, rfl, rfl, _, rfl, _, rfl, ls, _, _, rfl, rfl, ?_⟩
      rw [n1, Mo.cut_to, Mo.cut_from]
      refine ⟨sb _ (by rw [SX.S_len, SX.S_len, List.length_take, List.length_drop]; omega), ?_⟩
      rw [SX.S_cat]
      refine q _ ?_ ((seg_cat (hs.take k) (hs.drop (k + 1))).le (by omega))
      rw [List.length_append, List.length_take, List.length_drop]
      omega
    · refine ⟨_, rfl, rfl, _, rfl, _, rfl, rfl, _, rfl, _, rfl, rfl, _, rfl, _, rfl, _, rfl, _, rfl, _, rfl, ls, _, rfl, _, _, rfl, rfl, ?_⟩
      rw [Mo.cut_to]
      refine ⟨sb _ (by rw [SX.S_len, SX.S_len, List.length_take]; simp; omega), ?_⟩
      rw [SX.S_cat]
      refine ⟨_, rfl, _, rfl, _, _, rfl, rfl, _, rfl, _, rfl, ls, _, _, rfl, rfl, ?_⟩
      rw [n1, Mo.cut_from]
      refine ⟨sb _ (by rw [SX.S_len, SX.S_len, List.length_append, List.length_take, List.length_drop]; simp; omega), ?_⟩
      rw [SX.S_cat]
      refine q _ ?_ ((seg_cat (seg_cat (hs.take k) h2) (hs.drop (k + 1))).le (by omega))
      rw [List.length_append, List.length_append, List.length_take, List.length_drop]
      simp
      omega
    · refine ⟨_, rfl, rfl, _, rfl, _, rfl, rfl, _, rfl, _, rfl, rfl, _, rfl, _, rfl, _, rfl, _, rfl, _, rfl, ls, _, rfl, _, rfl, _, rfl, _, rfl, _, _, rfl, rfl, _, rfl, _, rfl, ls, ?_⟩
      rw [n2, Mo.cut_mid, show k + 2 - k = 2 by omega]
      have l2 : ((l.drop k).take 2).length ≤ 2 := by rw [List.length_take]; omega
      refine ⟨_, rfl, l2, ?_⟩
      have l3 : (((l.drop k).take 2).reverse).length = min 2 (l.length - k) := by rw [List.length_reverse, List.length_take, List.length_drop]
      rw [Mo.cut_to]
      refine ⟨_, _, rfl, rfl, sb _ (by rw [SX.S_len, SX.S_len, List.length_take, l3]; omega), ?_⟩
      rw [SX.S_cat]
      refine ⟨_, rfl, _, rfl, _, _, rfl, rfl, _, rfl, _, rfl, ls, _, _, rfl, rfl, ?_⟩
      rw [n2, Mo.cut_from]
      refine ⟨sb _ (by rw [SX.S_len, SX.S_len, List.length_append, List.length_take, List.length_drop, l3]; omega), ?_⟩
      rw [SX.S_cat]
      refine q _ ?_ ((seg_cat (seg_cat (hs.take k) (seg_short (n := 2) (by rw [l3]; omega))) (hs.drop (k + 2))).le (by omega))
      rw [List.length_append, List.length_append, List.length_take, List.length_drop, l3]
      omega
theorem ok__law_signs {P : Program} {w : World} {K : PySem.W.Frag} {mg : Str → Option Value} {base : Heap} (T : Env K mg) : Fc P w K mg base 2 (He.ga K "_law_signs") [] (sp__law_signs K ) := by
  obtain ⟨fd, D, F⟩ := fb__law_signs T
  exact F.all (D.bindsN fun _ _ _ _ _ _ us hl => match us, hl with | [_, _], _ => rfl)
end
section
/-- a drawn row -/
def BRow (ts : List Tr) : Prop := ts ≠ [] ∧ okL_ ts ∧ nestL ts ≤ 8 ∧ risB ts = true ∧ (momsL ts).length ≤ 1440 ∧ (∀ n ∈ momsL ts, n < 10 ^ 30) ∧ pcsL ts ≤ 40
def sp__law_over_bent (K : PySem.W.Frag) : Sp := fun vs H Q _ => ∃ (p r : Addr) (as : List Addr) (ts : List Tr), vs = [.ref p, .ref r] ∧ Pot H p ∧ H r = some (.tup (as.map V.ref)) ∧ DtsAt H ts as ∧ BRow ts ∧ ∀ (m s : Nat) (o q : Addr) H', m ≤ 10 ^ 40 → s < 10 ^ 34 → H' o = some (.tup [.ref q]) → DtAt H' (.ov ts m s) q → PotOn H H' p → Q (.ref o) H'
theorem fb__law_over_bent {P : Program} {w : World} {K : PySem.W.Frag} {mg : Str → Option Value} {base : Heap} (T : Env K mg) : ∃ fd, FunD K "_law_over_bent" "_law_over_bent" (defArgs s__law_over_bent) (defBody s__law_over_bent) (defScope s__law_over_bent) [] [] (He.ga K "_law_over_bent") fd ∧ Fb P w K mg base 60 (He.ga K "_law_over_bent") fd ["_law_pot_here", "_law_row_here"] (sp__law_over_bent K) := by
  obtain ⟨fd, F⟩ := T.f__law_over_bent
  refine ⟨fd, F, fb_of F sc__law_over_bent (fun vs H Q E h => ?_) (fun cdv A outer s H vs Q E hr h => ?_)⟩
  · obtain ⟨p, r, as, ts, rfl, _⟩ := h
    rfl
  · obtain ⟨p, r, as, ts, rfl, hp, ht, hA, hB, q⟩ := h
    obtain ⟨ne, ho, hn, hri, hlen, hm, hpc⟩ := hB
    refine ⟨_, (Evl.pss_cut (ps_set (i := 2) sc__law_over_bent.nd rfl (Or.inl rfl) (pe_op op_sub (c_call (all__law_end T 10) (hr.mono (by decide)) T.g__law_end T.k__law_end takes0 (pa_cons (pe_ix ix_tup (pv 1) (pe_un un_neg pe_int) (fun _ _ => rfl)) pa_nil)) (c_call (all__law_begin T 10) (hr.mono (by decide)) T.g__law_begin T.k__law_begin takes0 (pa_cons (pe_ix ix_tup (pv 1) pe_int (fun _ _ => rfl)) pa_nil))))
      (Evl.pss_cut (ps_set (i := 3) sc__law_over_bent.nd rfl (Or.inl rfl) (pe_op op_fdiv pe_int (c_call (all__law_many T 10) (hr.mono (by decide)) T.g__law_many T.k__law_many takes0 (pa_cons (pv 1) pa_nil))))
      (pss_cons (ps_set (i := 4) sc__law_over_bent.nd rfl (Or.inl rfl) (pe_ix ix_list (pe_lst (pa_cons pe_int (pa_cons pe_int (pa_cons pe_int (pa_cons pe_int (pa_cons (pv 3) (pa_cons (pe_op op_add (pv 3) pe_int) (pa_cons (pe_op op_pow pe_int pe_int) pa_nil)))))))) (c_call (ok__law_draw T) (hr.mono (by decide)) T.g__law_draw T.k__law_draw takes0 (pa_cons (pv 0) (pa_cons pe_int pa_nil))) (fun _ _ => rfl)))
      (pss_cons (ps_set (i := 5) sc__law_over_bent.nd rfl (Or.inl rfl) (pe_lst (pa_cons pe_int (pa_cons (pe_callB (call_max2 rfl) (by rfl) T.n_max (by decide +kernel) (pa_cons pe_int (pa_cons (pe_op op_sub (pv 2) pe_int) pa_nil))) (pa_cons (pv 2) (pa_cons (pe_op op_add (pv 2) pe_int) (pa_cons (pe_op op_add (pe_op op_add (pv 2) pe_int) (c_call (ok__law_gap T) (hr.mono (by decide)) T.g__law_gap T.k__law_gap takes0 (pa_cons (pv 0) pa_nil))) pa_nil)))))))
      (pss_one (ps_ret (pe_tup (pa_cons (pe_tup (pa_cons pe_str (pa_cons (pv 1) (pa_cons (pv 4) (pa_cons (pe_ix ix_list (pv 5) (c_call (ok__law_draw T) (hr.mono (by decide)) T.g__law_draw T.k__law_draw takes0 (pa_cons (pv 0) (pa_cons pe_int pa_nil))) (fun _ _ => rfl)) pa_nil))))) pa_nil)))))))), ?_⟩
    obtain ⟨wk, w1, w2, w3⟩ := okL_wk ho
    obtain ⟨w4, w5⟩ := w3 ne
    have mne := momsL_ne ho ne
    have hs := ris_sorted ho hri
    have hle := headD_le hs _ (lastD_mem mne)
    have hlt := hm _ (lastD_mem mne)
    have nz := wkL_nz wk
    have hf := fitL_of ho fun n hn => Nat.lt_trans (hm n hn) (by decide +kernel)
    have hlen2 := len_moms ho
    have n1 : 1 ≤ n0L ts := by
      rw [← w1]
      exact List.length_pos_iff.mpr mne
    refine ⟨fun σ' H' => ∃ sp : Nat, σ' = [some (.ref p), some (.ref r), some (.int (sp : Nat)), none, none, none] ∧ H' = H ∧ sp < 10 ^ 30, ?_, ?_⟩
    · obtain ⟨b1, t1, aL, m1, hD1, eL⟩ := last_dz hA ne
      obtain ⟨b2, t2, aF, m2, hD2, eF⟩ : ∃ b t, atI (as.map V.ref) 0 = some (.ref b) ∧ t ∈ ts ∧ DtAt H t b ∧ b0L ts = t.b0 := by
        cases ts with
        | nil => exact absurd rfl ne
        | cons t r =>
          unfold DtsAt at hA
          obtain ⟨b1, rr, rfl, hD1, _⟩ := hA
          exact ⟨b1, t, atI_nat (j := 0) rfl, List.mem_cons_self, hD1, by rw [b0L]⟩
      have k1 := nestL_mem m1
      have k2 := nestL_mem m2
      refine ⟨_, rfl, _, rfl, _, _, _, _, rfl, rfl, sq_tup ht, aL, b1, t1, rfl, hD1, by omega, nzL_mem nz m1, fitL_mem hf m1, ?_⟩
      refine ⟨_, rfl, _, _, _, _, rfl, rfl, sq_tup ht, aF, b2, t2, rfl, hD2, by omega, nzL_mem nz m2, _, _, rfl, rfl, ?_⟩
      refine ⟨t1.e0 - t2.b0, ?_, rfl, by omega⟩
      show [some (V.ref p), some (V.ref r), some (V.int (((t1.e0 : Nat) : Int) - ((t2.b0 : Nat) : Int))), none, none, none] = _
      rw [show ((t1.e0 : Nat) : Int) - ((t2.b0 : Nat) : Int) = ((t1.e0 - t2.b0 : Nat) : Int) by omega]
    rintro σ' H1 ⟨sp, rfl, rfl, hsp⟩
    refine ⟨fun σ' H' => ∃ mo : Nat, σ' = [some (.ref p), some (.ref r), some (.int (sp : Nat)), some (.int (mo : Nat)), none, none] ∧ Ex H1 H' ∧ mo ≤ 1440, ?_, ?_⟩
    · refine ⟨_, rfl, r, as, ts, rfl, .inr ht, hA, by omega, wk, by omega, by omega, fun H2 X2 => ⟨_, _, rfl, rfl, ?_, 1440 / n0L ts, rfl, X2, Nat.div_le_self _ _⟩⟩
      exact ⟨by omega, by omega⟩
    rintro σ' H2 ⟨mo, rfl, X2, hmo⟩
    refine ⟨_, rfl, _, rfl, _, _, rfl, rfl, _, _, rfl, rfl, ⟨(by decide), ⟨(by decide), (by decide)⟩⟩, (by show 7 ≤ sizeLine; decide), ?_⟩
    intro a1 na1
    have Xa1 := ex_new (o := HO.lst [V.int 0, V.int 1, V.int 2, V.int 3, V.int (↑mo : Int), V.int ((↑mo : Int) + 1), V.int (10 ^ Int.toNat 40)]) na1
    have ha1 : upd H2 a1 (HO.lst [V.int 0, V.int 1, V.int 2, V.int 3, V.int (↑mo : Int), V.int ((↑mo : Int) + 1), V.int (10 ^ Int.toNat 40)]) a1 = some (HO.lst [V.int 0, V.int 1, V.int 2, V.int 3, V.int (↑mo : Int), V.int ((↑mo : Int) + 1), V.int (10 ^ Int.toNat 40)]) := upd_same
    generalize upd H2 a1 (HO.lst [V.int 0, V.int 1, V.int 2, V.int 3, V.int (↑mo : Int), V.int ((↑mo : Int) + 1), V.int (10 ^ Int.toNat 40)]) = Ga1 at Xa1 ha1 ⊢
    have R0 := (PotOn.refl hp).ex2 X2
    have R1 := R0.ex2 Xa1
    have a1p := pot_ne R0 na1
    refine ⟨_, rfl, _, _, rfl, R1.1, (by decide), (by decide), fun d G2 d0 d1 P2 => ?_⟩
    obtain ⟨m, em, hm40⟩ : ∃ m : Nat, atI [V.int 0, V.int 1, V.int 2, V.int 3, V.int ((mo : Nat) : Int), V.int (((mo : Nat) : Int) + 1), V.int (10 ^ Int.toNat 40)] d = some (.int (m : Nat)) ∧ m ≤ 10 ^ 40 := by
      have big : 10000 ≤ 10 ^ 40 := by decide +kernel
      rcases (by omega : d = 0 ∨ d = 1 ∨ d = 2 ∨ d = 3 ∨ d = 4 ∨ d = 5 ∨ d = 6) with rfl | rfl | rfl | rfl | rfl | rfl | rfl
      · exact ⟨0, rfl, by omega⟩
      · exact ⟨1, rfl, by omega⟩
      · exact ⟨2, rfl, by omega⟩
      · exact ⟨3, rfl, by omega⟩
      · exact ⟨mo, rfl, by omega⟩
      · exact ⟨mo + 1, rfl, by omega⟩
      · refine ⟨10 ^ 40, ?_, Nat.le_refl _⟩
        rw [show ((10 ^ 40 : Nat) : Int) = 10 ^ Int.toNat 40 from by decide +kernel]
        rfl
    have R2 := R1.trans P2
    refine ⟨a1, _, _, _, rfl, rfl, sq_lst (P2.2 _ _ a1p ha1), em, ?_⟩
    refine ⟨_, rfl, _, _, rfl, rfl, _, _, rfl, _, rfl, _, rfl, _, _, rfl, rfl, _, rfl, _, _, rfl, rfl, _, rfl, _, rfl, R2.1, fun g G3 hg P3 => ?_⟩
    have R3 := R2.trans P3
    refine ⟨_, _, rfl, rfl, (by show 5 ≤ sizeLine; decide), fun b nb => ?_⟩
    have bp := pot_ne R3 nb
    have R4 := pot_new (o := .lst [.int 0, .int (if ((sp : Nat) : Int) - 1 > 0 then ((sp : Nat) : Int) - 1 else 0), .int (sp : Nat), .int (((sp : Nat) : Int) + 1), .int (((sp : Nat) : Int) + 1 + ((g : Nat) : Int))]) R3 nb
    have hb : upd G3 b (.lst [.int 0, .int (if ((sp : Nat) : Int) - 1 > 0 then ((sp : Nat) : Int) - 1 else 0), .int (sp : Nat), .int (((sp : Nat) : Int) + 1), .int (((sp : Nat) : Int) + 1 + ((g : Nat) : Int))]) b = some (.lst [.int 0, .int (if ((sp : Nat) : Int) - 1 > 0 then ((sp : Nat) : Int) - 1 else 0), .int (sp : Nat), .int (((sp : Nat) : Int) + 1), .int (((sp : Nat) : Int) + 1 + ((g : Nat) : Int))]) := upd_same
    generalize upd G3 b (.lst [.int 0, .int (if ((sp : Nat) : Int) - 1 > 0 then ((sp : Nat) : Int) - 1 else 0), .int (sp : Nat), .int (((sp : Nat) : Int) + 1), .int (((sp : Nat) : Int) + 1 + ((g : Nat) : Int))]) = G4 at R4 hb ⊢
    refine ⟨_, rfl, _, rfl, _, rfl, _, rfl, p, _, rfl, R4.1, (by decide), (by decide), fun e G5 e0 e1 P5 => ?_⟩
    obtain ⟨st, es, hst⟩ : ∃ st : Nat, atI [V.int 0, .int (if ((sp : Nat) : Int) - 1 > 0 then ((sp : Nat) : Int) - 1 else 0), .int (sp : Nat), .int (((sp : Nat) : Int) + 1), .int (((sp : Nat) : Int) + 1 + ((g : Nat) : Int))] e = some (.int (st : Nat)) ∧ st < 10 ^ 34 := by
      have big : 2 * 10 ^ 30 + 10 ^ 20 < 10 ^ 34 := by decide +kernel
      rcases (by omega : e = 0 ∨ e = 1 ∨ e = 2 ∨ e = 3 ∨ e = 4) with rfl | rfl | rfl | rfl | rfl
      · exact ⟨0, rfl, by omega⟩
      · refine ⟨sp - 1, ?_, by omega⟩
        rw [show ((sp - 1 : Nat) : Int) = (if ((sp : Nat) : Int) - 1 > 0 then ((sp : Nat) : Int) - 1 else 0) from by split <;> omega]
        rfl
      · exact ⟨sp, rfl, by omega⟩
      · exact ⟨sp + 1, rfl, by omega⟩
      · exact ⟨sp + 1 + g, rfl, by omega⟩
    have R5 := R4.trans P5
    refine ⟨b, _, _, _, rfl, rfl, sq_lst (P5.2 _ _ bp hb), es, (by show 4 ≤ sizeLine; decide), fun u nu => ⟨(by show 1 ≤ sizeLine; decide), fun o no => ?_⟩⟩
    have R6 := (pot_new (o := .tup [.str "over", .ref r, .int (m : Nat), .int (st : Nat)]) R5 nu)
    have hu : upd G5 u (.tup [.str "over", .ref r, .int (m : Nat), .int (st : Nat)]) u = some (.tup [.str "over", .ref r, .int (m : Nat), .int (st : Nat)]) := upd_same
    generalize upd G5 u (.tup [.str "over", .ref r, .int (m : Nat), .int (st : Nat)]) = G6 at R6 hu no ⊢
    have R7 := pot_new (o := .tup [.ref u]) R6 no
    have kt : ∀ b xs, H1 b = some (.tup xs) → upd G6 o (.tup [.ref u]) b = some (.tup xs) := fun b xs e => R7.2 b _ (pot_other hp e nofun) e
    refine q m st o u _ hm40 hst upd_same ?_ R7
    unfold DtAt
    exact ⟨r, as, ex_new no _ _ hu, kt _ _ ht, hA.keep kt⟩
theorem ok__law_over_bent {P : Program} {w : World} {K : PySem.W.Frag} {mg : Str → Option Value} {base : Heap} (T : Env K mg) : Fc P w K mg base 60 (He.ga K "_law_over_bent") [] (sp__law_over_bent K ) := by
  obtain ⟨fd, D, F⟩ := fb__law_over_bent T
  exact F.all (D.bindsN fun _ _ _ _ _ _ us hl => match us, hl with | [_, _], _ => rfl)
end
section
theorem cut_dropV (xs : List V) (n : Nat) : cutV xs (some (n : Int)) none = xs.drop n := by
  unfold cutV
  rw [HT.sIx_none, HT.sIx_nat]
  by_cases h : n ≤ xs.length
  · rw [Nat.min_eq_left h]
    exact List.take_of_length_le (by rw [List.length_drop]; exact Nat.le_refl _)
  · rw [Nat.min_eq_right (by omega), List.drop_of_length_le (Nat.le_refl _), List.drop_of_length_le (by omega), List.take_nil]
theorem cut_takeV (xs : List V) (n : Nat) : cutV xs none (some (n : Int)) = xs.take n := by
  unfold cutV
  rw [HT.sIx_none, HT.sIx_nat, List.drop_zero, Nat.sub_zero]
  by_cases h : n ≤ xs.length
  · rw [Nat.min_eq_left h]
  · rw [Nat.min_eq_right (by omega), List.take_of_length_le (Nat.le_refl _), List.take_of_length_le (by omega)]
theorem cut_midV {xs : List V} {i j : Nat} (hi : i ≤ j) (hj : j ≤ xs.length) : cutV xs (some (i : Int)) (some (j : Int)) = (xs.drop i).take (j - i) := by
  unfold cutV
  rw [HT.sIx_nat, HT.sIx_nat, Nat.min_eq_left hj, Nat.min_eq_left (by omega)]
theorem slT_of {K : PySem.W.Frag} {H : Hp} {a : Addr} {xs : List V} {lo hi : Option Int} {Q : VK} (ha : H a = some (.tup xs)) (q : ∀ p H', Ex H H' → H' p = some (.tup (cutV xs lo hi)) → Q (.ref p) H') : rSlA K (.ref a) lo hi H Q := by
  refine ⟨a, xs, rfl, sq_tup ha, fun hw => q a H (.refl _) ?_, fun _ p np => q p _ (ex_new np) upd_same⟩
  have e : cutV xs lo hi = xs := by
    unfold cutV
    rw [hw.1, hw.2]
    simp
  rw [e]
  exact ha
end
section
theorem catT_of {K : PySem.W.Frag} {H : Hp} {a b : Addr} {xs ys : List V} {Q : VK} (ha : H a = some (.tup xs)) (hb : H b = some (.tup ys)) (hz : xs.length + ys.length ≤ sizeLine) (q : ∀ p H', Ex H H' → H' p = some (.tup (xs ++ ys)) → Q (.ref p) H') : rCatA K (.ref a) (.ref b) H Q := by
  refine ⟨a, b, xs, ys, rfl, rfl, sq_tup ha, sq_tup hb, hz, fun e => ?_, fun _ e => ?_, fun _ _ p np => q p _ (ex_new np) upd_same⟩
  · subst e
    exact q b H (.refl _) hb
  · subst e
    exact q a H (.refl _) (by rw [List.append_nil]; exact ha)
theorem cut_midW {xs : List V} {i : Nat} (j : Nat) (hi : i ≤ xs.length) : cutV xs (some (i : Int)) (some ((i + j : Nat) : Int)) = (xs.drop i).take j := by
  by_cases h : i + j ≤ xs.length
  · rw [cut_midV (by omega) h, show i + j - i = j by omega]
  · unfold cutV
    rw [HT.sIx_nat, HT.sIx_nat, Nat.min_eq_left hi, Nat.min_eq_right (by omega), List.take_of_length_le (by rw [List.length_drop]; omega), List.take_of_length_le (by rw [List.length_drop]; omega)]
theorem DtsAt.take' {H : Hp} : ∀ {ts : List Tr} {as : List Addr} (n : Nat), DtsAt H ts as → DtsAt H (ts.take n) (as.take n)
  | [], as, n, h => by
    unfold DtsAt at h
    rw [h, List.take_nil, List.take_nil]
    unfold DtsAt
    rfl
  | t :: ts, as, n, h => by
    unfold DtsAt at h
    obtain ⟨a, r, rfl, h2, h3⟩ := h
    cases n with
    | zero =>
      show DtsAt H [] []
      unfold DtsAt
      rfl
    | succ n =>
      show DtsAt H (t :: ts.take n) (a :: r.take n)
      unfold DtsAt
      exact ⟨a, r.take n, rfl, h2, DtsAt.take' n h3⟩
theorem DtsAt.drop' {H : Hp} : ∀ {ts : List Tr} {as : List Addr} (n : Nat), DtsAt H ts as → DtsAt H (ts.drop n) (as.drop n)
  | [], as, n, h => by
    unfold DtsAt at h
    rw [h, List.drop_nil, List.drop_nil]
    unfold DtsAt
    rfl
  | t :: ts, as, n, h => by
    cases n with
    | zero => exact h
    | succ n =>
      unfold DtsAt at h
      obtain ⟨a, r, rfl, h2, h3⟩ := h
      exact DtsAt.drop' n h3
theorem dtsA {H : Hp} : ∀ {ts us : List Tr} {as bs : List Addr}, DtsAt H ts as → DtsAt H us bs → DtsAt H (ts ++ us) (as ++ bs)
  | [], us, as, bs, h, h2 => by
    unfold DtsAt at h
    rw [h]
    exact h2
  | t :: ts, us, as, bs, h, h2 => by
    unfold DtsAt at h
    obtain ⟨a, r, rfl, h1, h3⟩ := h
    show DtsAt H (t :: (ts ++ us)) (a :: (r ++ bs))
    unfold DtsAt
    exact ⟨a, r ++ bs, rfl, h1, dtsA h3 h2⟩
theorem dts1 {H : Hp} {t : Tr} {a : Addr} (h : DtAt H t a) : DtsAt H [t] [a] := by
  unfold DtsAt
  exact ⟨a, [], rfl, h, by unfold DtsAt; rfl⟩
theorem DtsAt.rev {H : Hp} : ∀ {ts : List Tr} {as : List Addr}, DtsAt H ts as → DtsAt H ts.reverse as.reverse
  | [], as, h => by
    unfold DtsAt at h
    rw [h]
    unfold DtsAt
    rfl
  | t :: ts, as, h => by
    unfold DtsAt at h
    obtain ⟨a, r, rfl, h2, h3⟩ := h
    rw [List.reverse_cons, List.reverse_cons]
    exact dtsA (DtsAt.rev h3) (dts1 h2)
theorem pcsL_rev : ∀ ts : List Tr, pcsL ts.reverse = pcsL ts
  | [] => rfl
  | t :: r => by
    rw [List.reverse_cons, pcsL_app, pcsL_rev r, pcsL_one, show t :: r = [t] ++ r from rfl, pcsL_app, pcsL_one]
    omega
theorem fit_all : ∀ {ts : List Tr}, (∀ t ∈ ts, t.fit) → fitL ts
  | [], _ => by
    unfold fitL
    trivial
  | t :: r, h => by
    unfold fitL
    exact ⟨h t List.mem_cons_self, fit_all fun x hx => h x (List.mem_cons_of_mem _ hx)⟩
mutual
theorem sg_le {m n : Nat} (l : m ≤ n) : ∀ {t : Tr}, t.sg m → t.sg n
  | .at x, h => by
    unfold Tr.sg at h ⊢
    omega
  | .ov ps a b, h => by
    unfold Tr.sg at h ⊢
    exact ⟨h.1, Nat.le_trans h.2.1 l, sgL_le l h.2.2⟩
theorem sgL_le {m n : Nat} (l : m ≤ n) : ∀ {ts : List Tr}, sgL m ts → sgL n ts
  | [], _ => sgL_nil
  | t :: r, h => by
    unfold sgL at h ⊢
    exact ⟨sg_le l h.1, sgL_le l h.2⟩
end
/-- a row that was bent -/
def BentR (ts : List Tr) : Prop := sgL 90 ts ∧ nestL ts ≤ 20 ∧ pcsL ts ≤ 90 ∧ fitL ts
theorem bent_of {ts us : List Tr} (hs : sgL 90 ts) (hn : nestL ts ≤ 8) (hf : fitL ts) (h : ∀ t ∈ us, t ∈ ts) (hp : pcsL us ≤ 90) : BentR us :=
  ⟨sgL_of fun t ht => sgL_mem hs (h t ht), Nat.le_trans (nestL_le fun t ht => Nat.le_trans (nestL_mem (h t ht)) hn) (by decide), hp, fit_all fun t ht => fitL_mem hf (h t ht)⟩
theorem bent_ov {ts : List Tr} {m s : Nat} (hs : sgL 90 ts) (ne : ts ≠ []) (hn : nestL ts ≤ 19) (hp : pcsL ts ≤ 89) (hf : fitL ts) (hm : m ≤ 10 ^ 40) (h2 : s < 10 ^ 34) : BentR [.ov ts m s] := by
  have l1 := TL.numL_len (k := 41) (by decide) (show m < 10 ^ 41 from Nat.lt_of_le_of_lt hm (by decide +kernel))
  have l2 := TL.numL_len (k := 34) (by decide) h2
  refine ⟨sgL_one ?_, ?_, ?_, fitL_one ?_⟩
  · unfold Tr.sg
    refine ⟨ne, ?_, hs⟩
    unfold tailT
    simp
    omega
  · rw [nestL_one]
    unfold Tr.nest
    omega
  · rw [pcsL_one]
    unfold Tr.pcs
    omega
  · unfold Tr.fit
    exact ⟨Nat.lt_of_le_of_lt hm (by decide +kernel), Nat.lt_trans h2 (by decide +kernel), hf⟩
end
section
def sp__law_row_bent (K : PySem.W.Frag) : Sp := fun vs H Q _ => ∃ (p r : Addr) (as : List Addr) (ts : List Tr) (wy : Nat), vs = [.ref p, .ref r, .int (wy : Nat)] ∧ Pot H p ∧ H r = some (.tup (as.map V.ref)) ∧ DtsAt H ts as ∧ BRow ts ∧ ∀ (o : Addr) (bs : List Addr) (us : List Tr) H', H' o = some (.tup (bs.map V.ref)) → DtsAt H' us bs → BentR us → PotOn H H' p → Q (.ref o) H'
theorem fb__law_row_bent {P : Program} {w : World} {K : PySem.W.Frag} {mg : Str → Option Value} {base : Heap} (T : Env K mg) : ∃ fd, FunD K "_law_row_bent" "_law_row_bent" (defArgs s__law_row_bent) (defBody s__law_row_bent) (defScope s__law_row_bent) [] [] (He.ga K "_law_row_bent") fd ∧ Fb P w K mg base 62 (He.ga K "_law_row_bent") fd ["_law_pot_here", "_law_row_here", "_law_way"] (sp__law_row_bent K) := by
  obtain ⟨fd, F⟩ := T.f__law_row_bent
  refine ⟨fd, F, fb_of F sc__law_row_bent (fun vs H Q E h => ?_) (fun cdv A outer s H vs Q E hr h => ?_)⟩
  · obtain ⟨p, r, as, ts, wy, rfl, _⟩ := h
    rfl
  · obtain ⟨p, r, as, ts, wy, rfl, hp, ht, hA, hB, q⟩ := h
    have hB0 := hB
    obtain ⟨ne, ho, hn, hri, hlen, hm, hpc⟩ := hB
    have la := hA.len
    have hs := sgL_le (n := 90) (by decide) (sgL_ok ho hm)
    have hf := fitL_of ho fun n hn => Nat.lt_trans (hm n hn) (by decide +kernel)
    have l1 : 1 ≤ ts.length := List.length_pos_iff.mpr ne
    have l2 := len_pcsL ts
    refine ⟨_, (pss_cons (ps_set (i := 3) sc__law_row_bent.nd rfl (Or.inl rfl) (c_call (ok__law_draw T) (hr.mono (by decide)) T.g__law_draw T.k__law_draw takes0 (pa_cons (pv 0) (pa_cons (pe_callB call_len (by rfl) T.n_len (by decide +kernel) (pa_cons (pv 1) pa_nil)) pa_nil))))
      (pss_cons (ps_if (pt_cmpR op_eq (pv 2) pe_int (nomark _))
      (pss_one (ps_ret (pe_op op_catA (pe_op op_catA (pe_slice sl_tupA (pv 1) po_none (po_some (pv 3))) (pe_revT (pe_slice sl_tupA (pv 1) (po_some (pv 3)) (po_some (pe_op op_add (pv 3) pe_int))))) (pe_slice sl_tupA (pv 1) (po_some (pe_op op_add (pv 3) pe_int)) po_none))))
      pss_nil)
      (pss_cons (ps_if (pt_cmpR op_eq (pv 2) pe_int (nomark _))
      (pss_one (ps_ret (pe_op op_catA (pe_op op_catA (pe_slice sl_tupA (pv 1) po_none (po_some (pv 3))) (pe_slice sl_tupA (pv 1) (po_some (pv 3)) (po_some (pe_op op_add (pv 3) pe_int)))) (pe_slice sl_tupA (pv 1) (po_some (pv 3)) po_none))))
      pss_nil)
      (pss_cons (ps_if (pt_cmpR op_eq (pv 2) pe_int (nomark _))
      (pss_one (ps_ret (c_call (ok__law_over_bent T) (hr.mono (by decide)) T.g__law_over_bent T.k__law_over_bent takes0 (pa_cons (pv 0) (pa_cons (pv 1) pa_nil)))))
      pss_nil)
      (pss_cons (ps_set (i := 4) sc__law_row_bent.nd rfl (Or.inl rfl) (pv 1))
      (pss_cons (ps_for (passes_of rfl) rfl (pi_range1 (by rfl) T.n_range (pa_cons (pe_op op_add pe_int (c_call (ok__law_draw T) (hr.mono (by decide)) T.g__law_draw T.k__law_draw takes0 (pa_cons (pv 0) (pa_cons pe_int pa_nil)))) pa_nil)) (pg_name (i := 5) sc__law_row_bent.nd rfl (Or.inl rfl))
      (pss_one (ps_set (i := 4) sc__law_row_bent.nd rfl (Or.inl rfl) (pe_tup (pa_cons (pe_tup (pa_cons pe_str (pa_cons (pv 4) (pa_cons pe_int (pa_cons (pe_op op_add (pe_op op_sub (c_call (all__law_end T 21) (hr.mono (by decide)) T.g__law_end T.k__law_end takes0 (pa_cons (pe_ix ix_tup (pv 4) (pe_un un_neg pe_int) (fun _ _ => rfl)) pa_nil)) (c_call (all__law_begin T 21) (hr.mono (by decide)) T.g__law_begin T.k__law_begin takes0 (pa_cons (pe_ix ix_tup (pv 4) pe_int (fun _ _ => rfl)) pa_nil))) pe_int) pa_nil))))) pa_nil)))))
      (pss_one (ps_ret (pv 4))))))))), ?_⟩
    refine ⟨_, rfl, _, rfl, _, _, rfl, (.inr ⟨_, ⟨(sq_tup ht), rfl⟩⟩), _, _, rfl, hp, (by rw [List.length_map]; omega), (by rw [List.length_map]; omega), fun k H1 k0 k1 P1 => ?_⟩
    rw [List.length_map, la] at k1
    obtain ⟨k, rfl⟩ := Int.eq_ofNat_of_zero_le k0
    have kt : ∀ b xs, H b = some (.tup xs) → H1 b = some (.tup xs) := fun b xs e => P1.2 b _ (pot_other hp e nofun) e
    have ht1 := kt _ _ ht
    have hA1 := hA.keep kt
    have c1 : ((k : Int) + 1) = ((k + 1 : Nat) : Int) := by omega
    have c2 : ((k : Int) + 2) = ((k + 2 : Nat) : Int) := by omega
    have sl : ∀ n : Nat, n ≤ 1000 → n ≤ sizeLine := fun n h => by rw [sizeLine_eq]; omega
    by_cases w2 : wy = 2
    · subst w2
      refine ⟨_, rfl, rfl, _, rfl, ?_⟩
      refine ⟨_, rfl, _, rfl, _, rfl, slT_of ht1 fun a2 H2 X2 h2 => ?_⟩
      rw [cut_takeV] at h2
      refine ⟨_, rfl, _, rfl, _, rfl, _, rfl, _, _, rfl, rfl, _, rfl, slT_of (X2 _ _ ht1) fun a3 H3 X3 h3 => ?_⟩
      rw [c2, cut_midW 2 (by rw [List.length_map]; omega)] at h3
      refine ⟨a3, _, rfl, sq_tup h3, (by rw [List.length_take]; omega), fun a4 n4 => ?_⟩
      have X4 := ex_new (o := .tup ((as.map V.ref).drop k |>.take 2).reverse) n4
      have h4 : upd H3 a4 (.tup ((as.map V.ref).drop k |>.take 2).reverse) a4 = some (.tup ((as.map V.ref).drop k |>.take 2).reverse) := upd_same
      generalize upd H3 a4 (.tup ((as.map V.ref).drop k |>.take 2).reverse) = H4 at X4 h4 ⊢
      refine catT_of (X4 _ _ (X3 _ _ h2)) h4 (sl _ (by rw [List.length_reverse, List.length_take, List.length_take, List.length_drop, List.length_map]; omega)) fun a5 H5 X5 h5 => ?_
      have X15 := X2.trans (X3.trans (X4.trans X5))
      refine ⟨_, rfl, _, rfl, _, _, rfl, rfl, _, rfl, ?_⟩
      dsimp only [tNoPart]
      refine slT_of (X15 _ _ ht1) fun a6 H6 X6 h6 => ?_
      rw [c2, cut_dropV] at h6
      refine catT_of (X6 _ _ h5) h6 (sl _ (by rw [List.length_append, List.length_reverse, List.length_take, List.length_take, List.length_drop, List.length_drop, List.length_map]; omega)) fun a7 H7 X7 h7 => ?_
      have hA7 := hA1.mono (X15.trans (X6.trans X7))
      have e7 : (as.map V.ref).take k ++ ((as.map V.ref).drop k |>.take 2).reverse ++ (as.map V.ref).drop (k + 2) = (as.take k ++ ((as.drop k).take 2).reverse ++ as.drop (k + 2)).map V.ref := by simp
      rw [e7] at h7
      refine q a7 _ (ts.take k ++ ((ts.drop k).take 2).reverse ++ ts.drop (k + 2)) H7 h7 (dtsA (dtsA (hA7.take' k) ((hA7.drop' k).take' 2).rev) (hA7.drop' (k + 2))) ?_ (P1.ex2 (X15.trans (X6.trans X7)))
      refine bent_of hs hn hf (fun t ht => ?_) ?_
      · rcases List.mem_append.mp ht with ht | ht
        · rcases List.mem_append.mp ht with ht | ht
          · exact List.mem_of_mem_take ht
          · exact List.mem_of_mem_drop (List.mem_of_mem_take (List.mem_reverse.mp ht))
        · exact List.mem_of_mem_drop ht
      · have e1 := pcsL_app (ts.take k) (ts.drop k)
        rw [List.take_append_drop] at e1
        have e2 := pcsL_app ((ts.drop k).take 2) ((ts.drop k).drop 2)
        rw [List.take_append_drop, List.drop_drop] at e2
        rw [pcsL_app, pcsL_app, pcsL_rev]
        omega
    refine ⟨_, rfl, rfl, _, rfl, ifN (vint_ne (by omega)) ?_⟩
    by_cases w3 : wy = 3
    · subst w3
      refine ⟨_, rfl, rfl, _, rfl, ?_⟩
      refine ⟨_, rfl, _, rfl, _, rfl, slT_of ht1 fun a2 H2 X2 h2 => ?_⟩
      rw [cut_takeV] at h2
      refine ⟨_, rfl, _, rfl, _, rfl, _, rfl, _, _, rfl, rfl, _, rfl, slT_of (X2 _ _ ht1) fun a3 H3 X3 h3 => ?_⟩
      rw [c1, cut_midW 1 (by rw [List.length_map]; omega)] at h3
      refine catT_of (X3 _ _ h2) h3 (sl _ (by rw [List.length_take, List.length_take, List.length_drop, List.length_map]; omega)) fun a5 H5 X5 h5 => ?_
      have X15 := X2.trans (X3.trans X5)
      refine ⟨_, rfl, _, rfl, _, rfl, ?_⟩
      dsimp only [tNoPart]
      refine slT_of (X15 _ _ ht1) fun a6 H6 X6 h6 => ?_
      rw [cut_dropV] at h6
      refine catT_of (X6 _ _ h5) h6 (sl _ (by rw [List.length_append, List.length_take, List.length_take, List.length_drop, List.length_map]; omega)) fun a7 H7 X7 h7 => ?_
      have hA7 := hA1.mono (X15.trans (X6.trans X7))
      have e7 : (as.map V.ref).take k ++ ((as.map V.ref).drop k |>.take 1) ++ (as.map V.ref).drop k = (as.take k ++ (as.drop k).take 1 ++ as.drop k).map V.ref := by simp
      rw [e7] at h7
      refine q a7 _ (ts.take k ++ (ts.drop k).take 1 ++ ts.drop k) H7 h7 (dtsA (dtsA (hA7.take' k) ((hA7.drop' k).take' 1)) (hA7.drop' k)) ?_ (P1.ex2 (X15.trans (X6.trans X7)))
      refine bent_of hs hn hf (fun t ht => ?_) ?_
      · rcases List.mem_append.mp ht with ht | ht
        · rcases List.mem_append.mp ht with ht | ht
          · exact List.mem_of_mem_take ht
          · exact List.mem_of_mem_drop (List.mem_of_mem_take ht)
        · exact List.mem_of_mem_drop ht
      · have e1 := pcsL_app (ts.take k) (ts.drop k)
        rw [List.take_append_drop] at e1
        have e2 := pcsL_app ((ts.drop k).take 1) ((ts.drop k).drop 1)
        rw [List.take_append_drop] at e2
        rw [pcsL_app, pcsL_app]
        omega
    refine ⟨_, rfl, rfl, _, rfl, ifN (vint_ne (by omega)) ?_⟩
    by_cases w4 : wy = 4
    · subst w4
      refine ⟨_, rfl, rfl, _, rfl, ?_⟩
      refine ⟨_, rfl, _, rfl, p, r, as, ts, rfl, P1.1, ht1, hA1, hB0, fun m s o u H2 hm2 hs2 h2 hD P2 => ?_⟩
      exact q o [u] [.ov ts m s] H2 h2 (dts1 hD) (bent_ov hs ne (by omega) (by omega) hf hm2 hs2) (P1.trans P2)
    refine ⟨_, rfl, rfl, _, rfl, ifN (vint_ne (by omega)) ?_⟩
    refine ⟨_, rfl, _, rfl, _, _, rfl, P1.1, (by decide), (by decide), fun d H2 d0 d1 P2 => ?_⟩
    obtain ⟨d, rfl⟩ := Int.eq_ofNat_of_zero_le d0
    have P12 := P1.trans P2
    have kt2 : ∀ b xs, H b = some (.tup xs) → H2 b = some (.tup xs) := fun b xs e => P12.2 b _ (pot_other hp e nofun) e
    obtain ⟨wk, w1, w2', w3'⟩ := okL_wk ho
    obtain ⟨w4', w5⟩ := w3' ne
    have hle := headD_le (ris_sorted ho hri) _ (lastD_mem (momsL_ne ho ne))
    have hlt := hm _ (lastD_mem (momsL_ne ho ne))
    rw [w4', w5] at hle
    rw [w5] at hlt
    refine ⟨_, _, rfl, rfl, _, rfl, (by omega), (by omega), for_range (n := (1 + (d : Int)).toNat) (fun i σ H' => PotOn H H' p ∧ ∃ (o : Addr) (bs : List Addr) (us : List Tr) (v : Option V), σ = [some (.ref p), some (.ref r), some (.int (wy : Nat)), some (.int (k : Nat)), some (.ref o), v] ∧ H' o = some (.tup (bs.map V.ref)) ∧ DtsAt H' us bs ∧ us ≠ [] ∧ sgL 90 us ∧ nestL us ≤ 8 + i ∧ pcsL us ≤ 40 + i ∧ fitL us ∧ nzL us ∧ b0L us ≤ e0L us ∧ e0L us < 10 ^ 30 * 2 ^ i + 2 ^ i) ⟨P12, r, as, ts, _, rfl, kt2 _ _ ht, hA.keep kt2, ne, hs, hn, hpc, hf, wkL_nz wk, hle, by omega⟩ ?_ ?_⟩
    · rintro i σ H3 hi ⟨P3, o, bs, us, v, rfl, h3, hD, une, us1, us2, us3, us4, us5, us6, us7⟩
      have hi12 : i < 12 := by omega
      obtain ⟨b1, t1, aL, m1, hD1, eL⟩ := last_dz hD une
      obtain ⟨b2, t2, aF, m2, hD2, eF⟩ : ∃ b t, atI (bs.map V.ref) 0 = some (.ref b) ∧ t ∈ us ∧ DtAt H3 t b ∧ b0L us = t.b0 := by
        cases us with
        | nil => exact absurd rfl une
        | cons t r =>
          unfold DtsAt at hD
          obtain ⟨b1, rr, rfl, hD1, _⟩ := hD
          exact ⟨b1, t, atI_nat (j := 0) rfl, List.mem_cons_self, hD1, by rw [b0L]⟩
      have k1 := nestL_mem m1
      have k2 := nestL_mem m2
      refine ⟨_, rfl, _, rfl, _, rfl, _, _, _, _, rfl, rfl, sq_tup h3, aL, b1, t1, rfl, hD1, by omega, nzL_mem us5 m1, fitL_mem us4 m1, ?_⟩
      refine ⟨_, rfl, _, _, _, _, rfl, rfl, sq_tup h3, aF, b2, t2, rfl, hD2, by omega, nzL_mem us5 m2, _, _, rfl, rfl, _, _, rfl, rfl, (by show 4 ≤ sizeLine; decide), fun u nu => ⟨(by show 1 ≤ sizeLine; decide), fun z nz => ?_⟩⟩
      have nzv : ((t1.e0 : Nat) : Int) - ((t2.b0 : Nat) : Int) + 1 = ((t1.e0 - t2.b0 + 1 : Nat) : Int) := by omega
      have R4 := pot_new (o := .tup [.str "over", .ref o, .int 2, .int (((t1.e0 : Nat) : Int) - ((t2.b0 : Nat) : Int) + 1)]) P3 nu
      have X4 := ex_new (o := .tup [.str "over", .ref o, .int 2, .int (((t1.e0 : Nat) : Int) - ((t2.b0 : Nat) : Int) + 1)]) nu
      have X5 := X4.trans (ex_new (o := .tup [.ref u]) nz)
      have hu2 := ex_new (o := .tup [.ref u]) nz u _ upd_same
      have R5 := pot_new (o := .tup [.ref u]) R4 nz
      have pw : 2 ^ i ≤ 2 ^ 12 := Nat.pow_le_pow_right (by decide) (by omega)
      have pw1 : 2 ^ (i + 1) = 2 * 2 ^ i := by rw [Nat.pow_succ, Nat.mul_comm]
      have big : 10 ^ 30 * 2 ^ 12 + 2 ^ 12 + 1 < 10 ^ 34 := by decide +kernel
      have pm : 10 ^ 30 * 2 ^ i ≤ 10 ^ 30 * 2 ^ 12 := Nat.mul_le_mul_left _ pw
      have bt := bent_ov (m := 2) (s := t1.e0 - t2.b0 + 1) us1 une (by omega) (by omega) us4 (by decide) (by omega)
      obtain ⟨g1, g2, g3, g4⟩ := bt
      refine ⟨R5, z, [u], [.ov us 2 (t1.e0 - t2.b0 + 1)], _, rfl, upd_same, dts1 ?_, by simp, g1, ?_, ?_, g4, ?_, ?_, ?_⟩
      · unfold DtAt
        exact ⟨o, bs, by rw [← nzv]; exact hu2, X5 _ _ h3, hD.mono X5⟩
      · rw [nestL_one, Tr.nest]
        omega
      · rw [pcsL_one, Tr.pcs]
        omega
      · unfold nzL
        refine ⟨?_, by unfold nzL; trivial⟩
        unfold Tr.nz
        exact ⟨une, by decide, us5⟩
      · rw [b0L, e0L_one, Tr.b0, Tr.e0]
        omega
      · rw [e0L_one, Tr.e0, eL, pw1, Nat.mul_left_comm]
        omega
    · rintro σ H3 ⟨P3, o, bs, us, v, rfl, h3, hD, une, us1, us2, us3, us4, us5, us6, us7⟩
      refine ⟨_, rfl, ?_⟩
      exact q o bs us H3 h3 hD ⟨us1, by omega, by omega, us4⟩ P3
theorem ok__law_row_bent {P : Program} {w : World} {K : PySem.W.Frag} {mg : Str → Option Value} {base : Heap} (T : Env K mg) : Fc P w K mg base 62 (He.ga K "_law_row_bent") [] (sp__law_row_bent K ) := by
  obtain ⟨fd, D, F⟩ := fb__law_row_bent T
  exact F.all (D.bindsN fun _ _ _ _ _ _ us hl => match us, hl with | [_, _, _], _ => rfl)
end
section
mutual
/-- the data of what was drawn -/
def Tr.dat : Tr → PyData
  | .at n => .tuple [.str "at", .int (n : Nat)]
  | .ov ps m s => .tuple [.str "over", .tuple (datL ps), .int (m : Nat), .int (s : Nat)]
def datL : List Tr → List PyData
  | [] => []
  | t :: r => t.dat :: datL r
end
mutual
theorem dat_dp {K : PySem.W.Frag} {H : Hp} : ∀ {t : Tr} {a : Addr}, DtAt H t a → Dp K H (.ref a) t.dat
  | .at n, a, h => by
    unfold DtAt at h
    unfold Tr.dat
    exact .tup (sq_tup h) (.cons (.str _) (.cons (.int _) .nil))
  | .ov ps m s, a, h => by
    unfold DtAt at h
    obtain ⟨r, as, h1, h2, h3⟩ := h
    unfold Tr.dat
    exact .tup (sq_tup h1) (.cons (.str _) (.cons (.tup (sq_tup h2) (datL_dp h3)) (.cons (.int _) (.cons (.int _) .nil))))
theorem datL_dp {K : PySem.W.Frag} {H : Hp} : ∀ {ts : List Tr} {as : List Addr}, DtsAt H ts as → DpAll K H (as.map V.ref) (datL ts)
  | [], as, h => by
    unfold DtsAt at h
    rw [h]
    unfold datL
    exact .nil
  | t :: r, as, h => by
    unfold DtsAt at h
    obtain ⟨a, q, rfl, h1, h2⟩ := h
    unfold datL
    exact .cons (dat_dp h1) (datL_dp h2)
end
mutual
theorem dat_lay : ∀ t : Tr, t.dat.canLay0 = true ∧ t.dat.depth ≤ 2 * t.nest + 1
  | .at n => by
    unfold Tr.dat
    exact ⟨by simp only [PyData.canLay0, PyData.canLayAll0]; decide +kernel, by simp [PyData.depth, PyData.depthAll]⟩
  | .ov ps m s => by
    obtain ⟨h1, h2⟩ := datL_lay ps
    unfold Tr.dat Tr.nest
    refine ⟨?_, ?_⟩
    · simp only [PyData.canLay0, PyData.canLayAll0, h1]
      decide +kernel
    · simp only [PyData.depth, PyData.depthAll]
      omega
theorem datL_lay : ∀ ts : List Tr, PyData.canLayAll0 (datL ts) = true ∧ PyData.depthAll (datL ts) ≤ 2 * nestL ts + 1
  | [] => by
    unfold datL
    exact ⟨rfl, Nat.zero_le _⟩
  | t :: r => by
    obtain ⟨h1, h2⟩ := dat_lay t
    obtain ⟨h3, h4⟩ := datL_lay r
    unfold datL
    have e : nestL (t :: r) = max t.nest (nestL r) := by simp [nestL]
    refine ⟨?_, ?_⟩
    · simp only [PyData.canLayAll0, h1, h3, Bool.and_self]
    · simp only [PyData.depthAll, e]
      omega
end
theorem datL_shaped {ts : List Tr} (hn : nestL ts ≤ 20) : SeqAt.shaped (.tuple (datL ts)) = true := by
  obtain ⟨h1, h2⟩ := datL_lay ts
  refine Bool.and_eq_true_iff.mpr ⟨by simp only [PyData.canLay0]; exact h1, decide_eq_true ?_⟩
  simp only [PyData.depth]
  omega
theorem datL_none {ts : List Tr} : PyData.eqv (.tuple (datL ts)) (.tuple []) = decide (ts = []) := by
  cases ts with
  | nil => unfold datL; rfl
  | cons t r => unfold datL; rfl
theorem seg_rep {n c : Nat} (hc : isSep c = true) (k : Nat) {w : List Nat} (h : SegOk n w) : SegOk n (List.replicate k c ++ w) := seg_sep (fun x hx => by rw [List.eq_of_mem_replicate hx]; exact hc) h
theorem seg_rep0 {n c : Nat} (hc : isSep c = true) (k : Nat) : SegOk n (List.replicate k c) := by
  have := seg_rep (n := n) hc k (seg_nil n)
  rwa [List.append_nil] at this
def ovW : List Nat := [41, 32, 120, 50, 32, 43, 57, 57, 57, 57]
theorem seg_ovW : ∀ k : Nat, SegOk 10 (List.replicate k ovW).flatten ∧ atSep (List.replicate k ovW).flatten
  | 0 => ⟨seg_nil _, .inl rfl⟩
  | k + 1 => by
    obtain ⟨h1, h2⟩ := seg_ovW k
    have e : (List.replicate (k + 1) ovW).flatten = 41 :: ([32, 120, 50, 32, 43, 57, 57, 57, 57] ++ (List.replicate k ovW).flatten) := by
      rw [List.replicate_succ, List.flatten_cons]
      rfl
    rw [e]
    exact ⟨seg_cons rfl (seg_app (fun c hc => by revert c; decide) (by decide) h2 h1), .inr ⟨41, _, rfl, rfl⟩⟩
end
section
theorem fold_app (a : Array Nat) : ∀ (n : Nat) (b : Array Nat), ((List.replicate n a).foldl (· ++ ·) b).toList = b.toList ++ (List.replicate n a.toList).flatten
  | 0, b => by simp
  | n + 1, b => by
    rw [List.replicate_succ, List.foldl_cons, fold_app a n, List.replicate_succ, List.flatten_cons, Array.toList_append, List.append_assoc]
theorem mul_S (l : List Nat) (n : Nat) : Txt.mul (SX.S l) (n : Int) = SX.S (List.replicate n l).flatten := by
  unfold Txt.mul
  rcases Nat.eq_zero_or_pos n with rfl | hn
  · rfl
  rw [if_neg (by omega)]
  split
  · rename_i h
    rcases Bool.or_eq_true_iff.mp h with h | h
    · have : n = 1 := by
        have := eq_of_beq h
        omega
      subst this
      simp
    · have h0 : l = [] := by
        have := eq_of_beq h
        rw [SX.S_len] at this
        exact List.length_eq_zero_iff.mp this
      subst h0
      have : (List.replicate n ([] : List Nat)).flatten = [] := by simp
      rw [this]
  · refine TL.ext_tl ?_
    show ((List.replicate ((n : Int)).toNat (SX.S l).cps).foldl (· ++ ·) #[]).toList = (List.replicate n l).flatten
    rw [fold_app]
    simp [SX.S]
end
section
theorem flat1 {α : Type} (x : α) : ∀ d : Nat, (List.replicate d [x]).flatten = List.replicate d x
  | 0 => rfl
  | d + 1 => by rw [List.replicate_succ, List.flatten_cons, flat1 x d, List.replicate_succ]; rfl
def sp__law_spoilt (K : PySem.W.Frag) : Sp := fun vs H Q _ => ∃ (p r : Addr) (as : List Addr) (ts : List Tr) (wy : Nat), vs = [.ref p, .int (wy : Nat), .ref r] ∧ Pot H p ∧ wy < 8 ∧ H r = some (.tup (as.map V.ref)) ∧ DtsAt H ts as ∧ (ts ≠ [] → BRow ts) ∧ ∀ (l : List Nat) H', l.length ≤ 9500 → SegOk 182 l → PotOn H H' p → Q (.str (SX.S l)) H'
theorem fb__law_spoilt {P : Program} {w : World} {K : PySem.W.Frag} {mg : Str → Option Value} {base : Heap} (T : Env K mg) : ∃ fd, FunD K "_law_spoilt" "_law_spoilt" (defArgs s__law_spoilt) (defBody s__law_spoilt) (defScope s__law_spoilt) [] [] (He.ga K "_law_spoilt") fd ∧ Fb P w K mg base 92 (He.ga K "_law_spoilt") fd ["_law_pot_here", "_law_way", "_law_row_here"] (sp__law_spoilt K) := by
  obtain ⟨fd, F⟩ := T.f__law_spoilt
  refine ⟨fd, F, fb_of F sc__law_spoilt (fun vs H Q E h => ?_) (fun cdv A outer s H vs Q E hr h => ?_)⟩
  · obtain ⟨p, r, as, ts, wy, rfl, _⟩ := h
    rfl
  · obtain ⟨p, r, as, ts, wy, rfl, hp, hw, ht, hA, hB, q⟩ := h
    refine ⟨_, (Evl.pss_cut (ps_if (PW.pt (pw_and (pt_cmpR op_gt (pv 1) pe_int (nomark _)) (pw_and (pt_cmpR op_lt (pv 1) pe_int (nomark _)) (pw_and1 (pt_cmpR (op_neD hr.rm.units) (pv 2) (pe_tup pa_nil) (nomark _))))))
      (pss_one (ps_ret (c_call (ok__law_text T (Nat.le_add_right 40 _) (all__law_word T 22)) (hr.mono (by decide)) T.g__law_text T.k__law_text takes0 (pa_cons (c_call (ok__law_row_bent T) (hr.mono (by decide)) T.g__law_row_bent T.k__law_row_bent takes0 (pa_cons (pv 0) (pa_cons (pv 2) (pa_cons (pv 1) pa_nil)))) pa_nil))))
      pss_nil)
      (Evl.pss_cut (ps_set (i := 3) sc__law_spoilt.nd rfl (Or.inl rfl) (c_call (ok__law_text T (Nat.le_add_right 40 _) (all__law_word T 22)) (hr.mono (by decide)) T.g__law_text T.k__law_text takes0 (pa_cons (pv 2) pa_nil)))
      (Evl.pss_cut (ps_if (pt_cmpR op_eq (pv 1) pe_int (nomark _))
      (pss_cons (ps_asg (pe_lc (own := [("_law_k", 7)]) (by rfl) sc__law_spoilt.nd (pi_range1 (by rfl) T.n_range (pa_cons pe_int pa_nil)) (blkOk_by (own := [("_law_k", 7)]) (N := ["_law_pot_here", "_law_way", "_law_row_here", "_law_text_here", "_law_ahead", "_law_behind", "_law_tails", "_law_k"]) (sc := defScope s__law_spoilt) (by decide +kernel)) (fun _ _ _ _ _ => (pg_name (i := 7) sc__law_spoilt.nd rfl (Or.inl rfl))) (fun _ _ _ _ _ => pts_nil) (fun _ _ _ _ _ => (pe_op op_repS pe_str (c_call (ok__law_draw T) (hr.mono (by decide)) T.g__law_draw T.k__law_draw takes0 (pa_cons (pv 0) (pa_cons pe_int pa_nil)))))) (pg_lst (by rfl) (pgs_cons (pg_name (i := 4) sc__law_spoilt.nd rfl (Or.inl rfl)) (pgs_cons (pg_name (i := 5) sc__law_spoilt.nd rfl (Or.inl rfl)) pgs_nil))))
      (pss_cons (ps_set (i := 6) sc__law_spoilt.nd rfl (Or.inl rfl) (pe_lst (pa_cons (pv 5) (pa_cons (pe_op op_repS pe_str (pe_callB call_len (by rfl) T.n_len (by decide +kernel) (pa_cons (pv 4) pa_nil))) (pa_cons (pe_op op_repS pe_str (pe_callB call_len (by rfl) T.n_len (by decide +kernel) (pa_cons (pe_slice sl_str (pv 4) po_none (po_some pe_int)) pa_nil))) pa_nil)))))
      (pss_one (ps_set (i := 3) sc__law_spoilt.nd rfl (Or.inl rfl) (pe_op op_add_str (pe_op op_add_str (pv 4) (pe_slice sl_str (pv 3) po_none (po_some pe_int))) (pe_ix ix_list (pv 6) (c_call (ok__law_draw T) (hr.mono (by decide)) T.g__law_draw T.k__law_draw takes0 (pa_cons (pv 0) (pa_cons pe_int pa_nil))) (fun _ _ => rfl)))))))
      pss_nil)
      (pss_cons (ps_for (passes_of rfl) rfl (pi_range1 (by rfl) T.n_range (pa_cons (pe_ix ix_list (pe_lst (pa_cons pe_int (pa_cons pe_int (pa_cons pe_int pa_nil)))) (pe_callB (call_min2 rfl) (by rfl) T.n_min (by decide +kernel) (pa_cons (pv 1) (pa_cons pe_int pa_nil))) (fun _ _ => rfl)) pa_nil)) (pg_name (i := 7) sc__law_spoilt.nd rfl (Or.inl rfl))
      (pss_one (ps_set (i := 3) sc__law_spoilt.nd rfl (Or.inl rfl) (c_call (ok__law_signs T) (hr.mono (by decide)) T.g__law_signs T.k__law_signs takes0 (pa_cons (pv 0) (pa_cons (pv 3) pa_nil))))))
      (pss_one (ps_ret (pv 3))))))), ?_⟩
    have la := hA.len
    have hfit : fitL ts := by
      by_cases e : ts = []
      · rw [e]
        unfold fitL
        trivial
      · exact fitL_of (hB e).2.1 fun n hn => Nat.lt_trans ((hB e).2.2.2.2.2.1 n hn) (by decide +kernel)
    have hnest : nestL ts ≤ 8 := by
      by_cases e : ts = []
      · rw [e]
        simp [nestL]
      · exact (hB e).2.2.1
    have hpcs : pcsL ts ≤ 40 := by
      by_cases e : ts = []
      · rw [e]
        unfold pcsL
        exact Nat.zero_le _
      · exact (hB e).2.2.2.2.2.2
    have hsg : sgL 44 ts := by
      by_cases e : ts = []
      · rw [e]
        exact sgL_nil
      · exact sgL_ok (hB e).2.1 (hB e).2.2.2.2.2.1
    have hdp := datL_dp (K := K) hA
    have sb : ∀ n : Nat, n ≤ 20000 → n ≤ sizeLine := fun n h => sz_big (by omega)
    refine ⟨fun σ' H' => σ' = [some (.ref p), some (.int (wy : Nat)), some (.ref r), none, none, none, none, none] ∧ Ex H H', ?_, ?_⟩
    · by_cases c1 : 1 < wy
      · refine ⟨_, rfl, _, _, rfl, rfl, _, rfl, ifP (by omega) ?_⟩
        by_cases c2 : wy < 6
        · refine ⟨_, rfl, _, _, rfl, rfl, _, rfl, ifP (by omega) ?_⟩
          refine ⟨_, rfl, (by decide), fun e0 n0 => ?_⟩
          have X1 := ex_new (o := .tup []) n0
          refine ⟨.tuple (datL ts), .tuple [], .tup (sq_tup (X1 _ _ ht)) (datL_dp (hA.mono X1)), .tup (sq_tup upd_same) .nil, datL_shaped (by omega), rfl, _, rfl, ?_⟩
          rw [datL_none]
          generalize upd H e0 (.tup []) = H1 at X1 ⊢
          by_cases c3 : ts = []
          · rw [decide_eq_true c3]
            exact iteF ⟨rfl, X1⟩
          · rw [decide_eq_false c3]
            refine iteT ?_
            refine ⟨_, rfl, _, rfl, _, rfl, p, r, as, ts, wy, rfl, (PotOn.refl hp |>.ex2 X1).1, X1 _ _ ht, hA.mono X1, hB c3, fun o bs us H2 h2 hD hbt P2 => ?_⟩
            obtain ⟨b1, b2, b3, b4⟩ := hbt
            refine ⟨o, bs, us, rfl, h2, hD, fun t ht => by have := nestL_mem ht; omega, b4, by omega, fun H3 X3 => ?_⟩
            have tl := sg_tlen b1
            refine q _ H3 ?_ ((sg_text b1 (by decide)).le (by decide)) ((((PotOn.refl hp).ex2 X1).trans P2).ex2 X3)
            have : pcsL us * (90 + 4) ≤ 90 * 94 := Nat.mul_le_mul_right _ b3
            omega
        · refine ⟨_, rfl, _, _, rfl, rfl, _, rfl, ifN (by omega) ?_⟩
          exact iteF ⟨rfl, .refl _⟩
      · refine ⟨_, rfl, _, _, rfl, rfl, _, rfl, ifN (by omega) ?_⟩
        exact iteF ⟨rfl, .refl _⟩
    rintro σ' H1 ⟨rfl, X1⟩
    have P1 := (PotOn.refl hp).ex2 X1
    refine ⟨fun σ' H' => ∃ l : List Nat, σ' = [some (.ref p), some (.int (wy : Nat)), some (.ref r), some (.str (SX.S l)), none, none, none, none] ∧ PotOn H H' p ∧ l.length ≤ 2000 ∧ SegOk 44 l, ?_, ?_⟩
    · refine ⟨_, rfl, r, as, ts, rfl, X1 _ _ ht, hA.mono X1, fun t ht => by have := nestL_mem ht; omega, hfit, by omega, fun H3 X3 => ?_⟩
      have tl := sg_tlen hsg
      refine ⟨rowT (txtL ts), rfl, P1.ex2 X3, ?_, sg_text hsg (by decide)⟩
      have : pcsL ts * (44 + 4) ≤ 40 * 48 := Nat.mul_le_mul_right _ hpcs
      omega
    rintro σ' H2 ⟨l, rfl, P2, ll, sl⟩
    refine ⟨fun σ' H' => ∃ (l : List Nat) (v4 v5 v6 v7 : Option V), σ' = [some (.ref p), some (.int (wy : Nat)), some (.ref r), some (.str (SX.S l)), v4, v5, v6, v7] ∧ PotOn H H' p ∧ l.length ≤ 4000 ∧ SegOk (if wy ≤ 1 then 44 else 182) l, ?_, ?_⟩
    · by_cases c6 : wy = 6
      · subst c6
        refine ⟨_, rfl, rfl, _, rfl, _, rfl, (by decide), (by decide), fun D nD => ?_⟩
        have Dp : D ≠ p := pot_ne P2 nD
        have nD0 : H D = none := P2.fresh nD
        refine lc_any (n := 2) (J := Itr 0 2) L2.walk_range (fun i acc G => PotOn H G p ∧ ∃ ns : List Nat, acc = ns.map (fun n => V.str (SX.S (List.replicate n 40))) ∧ ns.length = i ∧ ∀ n ∈ ns, n ≤ 900) (fun i acc G l e => ⟨pot_upd e.1 nD0 Dp, e.2⟩) ⟨P2, [], rfl, rfl, nofun⟩ (by decide) (fun i acc G e => ?_) (fun _ _ _ _ => trivial) (fun i x H3 H4 acc N hi e hD la y k _ => ?_) (fun acc H3 e hD => ?_)
        · obtain ⟨_, l, rfl, hl, _⟩ := e
          simp [hl]
        · obtain ⟨rfl, rfl⟩ := y
          obtain ⟨P3, ns, rfl, hl, ha⟩ := e
          refine ⟨rfl, _, rfl, p, 901, rfl, P3.1, (by decide), (by decide), fun d H5 d0 d1 P5 => ?_⟩
          obtain ⟨d, rfl⟩ := Int.eq_ofNat_of_zero_le d0
          have hD5 := P5.2 _ _ Dp hD
          refine ⟨_, _, rfl, rfl, (by decide), d0, by omega, ?_⟩
          rw [show Str.ofString "(" = SX.S [40] from rfl, mul_S, flat1]
          refine ⟨_, hD5, la, ?_⟩
          exact k _ H5 hD5 ⟨P3.trans P5, ns ++ [d], by simp, by simp [hl], fun x hx => (List.mem_append.mp hx).elim (ha x) fun z => by
            rw [List.mem_singleton.mp z]
            omega⟩
        obtain ⟨P3, ns, rfl, hl, hns⟩ := e
        obtain ⟨a, b, rfl⟩ : ∃ a b, ns = [a, b] := by
          match ns, hl with
          | [a, b], _ => exact ⟨a, b, rfl⟩
        have ha := hns a (by simp)
        have hb := hns b (by simp)
        have la1 : (SX.S (List.replicate a 40)).length ≤ sizeLine := sb _ (by rw [SX.S_len, List.length_replicate]; omega)
        have ls1 : (SX.S l).length ≤ sizeLine := sb _ (by rw [SX.S_len]; omega)
        refine ⟨D, _, rfl, sq_lst hD, rfl, _, _, rfl, ?_⟩
        refine ⟨_, _, rfl, rfl, ?_⟩
        refine ⟨_, rfl, _, rfl, _, _, rfl, ⟨la1, rfl⟩, _, _, rfl, rfl, (by decide), (by rw [SX.S_len, List.length_replicate]; omega), (by rw [SX.S_len, List.length_replicate]; omega), ?_⟩
        rw [SX.S_len, List.length_replicate, show Str.ofString ")" = SX.S [41] from rfl, mul_S, flat1]
        refine ⟨_, rfl, _, rfl, _, rfl, la1, ?_⟩
        rw [show (60 : Int) = ((60 : Nat) : Int) from rfl, Mo.cut_to]
        refine ⟨_, _, rfl, ⟨sb _ (by rw [SX.S_len, List.length_take, List.length_replicate]; omega), rfl⟩, ?_⟩
        rw [SX.S_len, List.length_take, List.length_replicate]
        refine ⟨_, _, rfl, rfl, (by decide), (by omega), (by omega), ?_⟩
        rw [show Str.ofString ") x2 +9999" = SX.S ovW from rfl, mul_S]
        refine ⟨(by show 3 ≤ sizeLine; decide), fun u nu => ?_⟩
        have up := pot_ne P3 nu
        have R4 := pot_new (o := .lst [V.str (SX.S (List.replicate b 40)), V.str (SX.S (List.replicate a 41)), V.str (SX.S (List.replicate (min 60 a) ovW).flatten)]) P3 nu
        have hu : upd H3 u (.lst [V.str (SX.S (List.replicate b 40)), V.str (SX.S (List.replicate a 41)), V.str (SX.S (List.replicate (min 60 a) ovW).flatten)]) u = some (.lst [V.str (SX.S (List.replicate b 40)), V.str (SX.S (List.replicate a 41)), V.str (SX.S (List.replicate (min 60 a) ovW).flatten)]) := upd_same
        generalize upd H3 u (.lst [V.str (SX.S (List.replicate b 40)), V.str (SX.S (List.replicate a 41)), V.str (SX.S (List.replicate (min 60 a) ovW).flatten)]) = G4 at R4 hu ⊢
        refine ⟨_, rfl, _, rfl, _, rfl, _, rfl, ls1, ?_⟩
        rw [show (300 : Int) = ((300 : Nat) : Int) from rfl, Mo.cut_to]
        refine ⟨_, _, rfl, rfl, sb _ (by rw [SX.S_len, SX.S_len, List.length_take, List.length_replicate]; omega), ?_⟩
        rw [SX.S_cat]
        refine ⟨_, rfl, _, rfl, p, 3, rfl, R4.1, (by decide), (by decide), fun e G5 e0 e1 P5 => ?_⟩
        obtain ⟨w, ew, w1, w2⟩ : ∃ w : List Nat, atI [V.str (SX.S (List.replicate b 40)), V.str (SX.S (List.replicate a 41)), V.str (SX.S (List.replicate (min 60 a) ovW).flatten)] e = some (.str (SX.S w)) ∧ w.length ≤ 900 ∧ SegOk 10 w := by
          have e1 : e < 3 := e1
          rcases (by omega : e = 0 ∨ e = 1 ∨ e = 2) with rfl | rfl | rfl
          · exact ⟨_, rfl, by rw [List.length_replicate]; exact hb, seg_rep0 rfl b⟩
          · exact ⟨_, rfl, by rw [List.length_replicate]; exact ha, seg_rep0 rfl a⟩
          · refine ⟨_, rfl, ?_, (seg_ovW _).1⟩
            rw [List.length_flatten, List.map_replicate, List.sum_replicate_nat]
            show min 60 a * 10 ≤ 900
            omega
        refine ⟨u, _, _, _, rfl, rfl, sq_lst (P5.2 _ _ up hu), ew, ?_⟩
        refine ⟨_, _, rfl, rfl, sb _ (by rw [SX.S_len, SX.S_len, List.length_append, List.length_take, List.length_replicate]; omega), ?_⟩
        rw [SX.S_cat]
        refine ⟨List.replicate a 40 ++ l.take 300 ++ w, _, _, _, _, rfl, R4.trans P5, ?_, ?_⟩
        · rw [List.length_append, List.length_append, List.length_take, List.length_replicate]
          omega
        · rw [if_neg (by decide), List.append_assoc]
          exact (seg_rep rfl a (seg_cat (sl.take 300) w2)).le (by decide)
      · refine ⟨_, rfl, rfl, _, rfl, ifN (vint_ne (by omega)) ?_⟩
        exact ⟨l, _, _, _, _, rfl, P2, by omega, sl.le (by split <;> decide)⟩
    rintro σ' H3 ⟨l, v4, v5, v6, v7, rfl, P3, ll, sl⟩
    refine ⟨(by decide), ?_⟩
    intro a1 na1
    have Xa1 := ex_new (o := HO.lst [V.int 1, V.int 2, V.int 0]) na1
    have ha1 : upd H3 a1 (HO.lst [V.int 1, V.int 2, V.int 0]) a1 = some (HO.lst [V.int 1, V.int 2, V.int 0]) := upd_same
    generalize upd H3 a1 (HO.lst [V.int 1, V.int 2, V.int 0]) = Ga1 at Xa1 ha1 ⊢
    refine ⟨_, rfl, _, _, rfl, ?_⟩
    have R3 := P3.ex2 Xa1
    obtain ⟨n, en, n2, nz⟩ : ∃ n : Nat, atI [V.int 1, V.int 2, V.int 0] (if (2 : Int) < ((wy : Nat) : Int) then 2 else ((wy : Nat) : Int)) = some (.int (n : Nat)) ∧ n ≤ 2 ∧ (¬ wy ≤ 1 → n = 0) := by
      rcases (by omega : wy = 0 ∨ wy = 1 ∨ wy = 2 ∨ 2 < wy) with rfl | rfl | rfl | c
      · exact ⟨1, rfl, by decide, fun z => absurd (by decide) z⟩
      · exact ⟨2, rfl, by decide, fun z => absurd (by decide) z⟩
      · exact ⟨0, rfl, by decide, fun _ => rfl⟩
      · rw [if_pos (by omega)]
        exact ⟨0, rfl, by decide, fun _ => rfl⟩
    refine ⟨a1, _, _, _, rfl, rfl, sq_lst ha1, en, _, rfl, (by omega), (by omega), for_range (n := ((n : Nat) : Int).toNat) (fun i σ H' => ∃ (l : List Nat) (v4 v5 v6 v7 : Option V), σ = [some (.ref p), some (.int (wy : Nat)), some (.ref r), some (.str (SX.S l)), v4, v5, v6, v7] ∧ PotOn H H' p ∧ l.length ≤ 4000 + i ∧ SegOk (if wy ≤ 1 then (if i = 0 then 44 else if i = 1 then 90 else 182) else 182) l) ⟨l, v4, v5, v6, v7, rfl, R3, ll, sl⟩ ?_ ?_⟩
    · rintro i σ H4 hi ⟨l, v4, v5, v6, v7, rfl, P4, ll, sl⟩
      have hi2 : i < n := by omega
      have w1 : wy ≤ 1 := by
        by_cases z : wy ≤ 1
        · exact z
        · have := nz z
          omega
      rw [if_pos w1] at sl
      refine ⟨_, rfl, _, rfl, p, l, _, rfl, P4.1, by omega, sl, fun l' H5 k1 k2 P5 => ?_⟩
      refine ⟨l', v4, v5, v6, _, rfl, P4.trans P5, by omega, ?_⟩
      rw [if_pos w1]
      refine k2.le ?_
      rcases (by omega : i = 0 ∨ i = 1) with rfl | rfl <;> decide
    · rintro σ H4 ⟨l, v4, v5, v6, v7, rfl, P4, ll, sl⟩
      refine ⟨_, rfl, ?_⟩
      refine q l H4 (by omega) (sl.le ?_) P4
      split
      · split
        · decide
        · split <;> decide
      · decide
theorem ok__law_spoilt {P : Program} {w : World} {K : PySem.W.Frag} {mg : Str → Option Value} {base : Heap} (T : Env K mg) : Fc P w K mg base 92 (He.ga K "_law_spoilt") [] (sp__law_spoilt K ) := by
  obtain ⟨fd, D, F⟩ := fb__law_spoilt T
  exact F.all (D.bindsN fun _ _ _ _ _ _ us hl => match us, hl with | [_, _, _], _ => rfl)
end
section
theorem itm_noS {a w : List Nat} (ha : noSep a) (hw : atSep w) : (itm (a ++ w)).length = a.length := by rw [itm_app ha hw]
mutual
theorem sg_inv {n : Nat} : ∀ {t : Tr} {w : List Nat}, t.nz → atSep w → SegOk n (t.txt ++ w) → t.sg (n + 1)
  | .at x, w, _, hw, h => by
    unfold Tr.txt at h
    have h0 := h 0
    rw [List.drop_zero, itm_noS (shw_sep x) hw] at h0
    unfold Tr.sg
    omega
  | .ov ps m s, w, hz, hw, h => by
    unfold Tr.nz at hz
    obtain ⟨h1, h2, h3⟩ := hz
    rw [ov_txt _ _ _ h1] at h
    have e1 : 40 :: (TL.joinL [44, 32] (txtL ps) ++ 41 :: tailT m s) ++ w = [40] ++ (TL.joinL [44, 32] (txtL ps) ++ (41 :: (tailT m s ++ w))) := by simp
    rw [e1] at h
    have ha : SegOk n (TL.joinL [44, 32] (txtL ps) ++ (41 :: (tailT m s ++ w))) := h.drop 1
    have hb := ha.drop (TL.joinL [44, 32] (txtL ps)).length
    rw [List.drop_left] at hb
    have hc : (itm (tailT m s ++ w)).length ≤ n := hb 1
    rw [itm_noS (tail_sep m s) hw] at hc
    unfold Tr.sg
    exact ⟨h1, by omega, sgL_inv h3 (.inr ⟨41, _, rfl, rfl⟩) ha⟩
theorem sgL_inv {n : Nat} : ∀ {ts : List Tr} {w : List Nat}, nzL ts → atSep w → SegOk n (TL.joinL [44, 32] (txtL ts) ++ w) → sgL (n + 1) ts
  | [], w, _, _, _ => sgL_nil
  | [t], w, hz, hw, h => by
    have e : txtL [t] = [t.txt] := by simp [txtL]
    rw [e] at h
    unfold nzL at hz
    exact sgL_one (sg_inv hz.1 hw h)
  | t :: x :: r, w, hz, hw, h => by
    unfold nzL at hz
    have e : txtL (t :: x :: r) = t.txt :: x.txt :: txtL r := by simp [txtL]
    have e3 : txtL (x :: r) = x.txt :: txtL r := by simp [txtL]
    rw [e] at h
    have e4 : TL.joinL [44, 32] (t.txt :: x.txt :: txtL r) ++ w = t.txt ++ ([44, 32] ++ (TL.joinL [44, 32] (txtL (x :: r)) ++ w)) := by
      rw [e3]
      show (t.txt ++ ([44, 32] ++ TL.joinL [44, 32] (x.txt :: txtL r))) ++ w = _
      simp
    rw [e4] at h
    have h1 := sg_inv hz.1 (w := [44, 32] ++ (TL.joinL [44, 32] (txtL (x :: r)) ++ w)) (.inr ⟨44, _, rfl, rfl⟩) h
    have h2 := h.drop t.txt.length
    rw [List.drop_left] at h2
    have h2 : SegOk n (TL.joinL [44, 32] (txtL (x :: r)) ++ w) := h2.drop 2
    have h3 := sgL_inv (ts := x :: r) hz.2 hw h2
    unfold sgL
    exact ⟨h1, h3⟩
end
theorem numL_bd (n : Nat) : n < 10 ^ (TL.numL n).length := num_lt (Mo.num_num n)
theorem shw_bd {x : Nat} (h : (Mo.shw x).length ≤ 182) : x < 10 ^ 186 := by
  have e : 1440 * 10 ^ 182 + 1440 < 10 ^ 186 := by decide +kernel
  by_cases c : x < 1440
  · omega
  · have h1 : (TL.numL (x / 1440)).length ≤ 182 := by
      unfold Mo.shw at h
      rw [if_neg (by omega), List.length_append] at h
      omega
    have h2 := Nat.lt_of_lt_of_le (numL_bd (x / 1440)) (Nat.pow_le_pow_right (by decide) h1)
    omega
mutual
theorem e0_bd : ∀ {t : Tr}, t.ok → t.sg 183 → t.e0 < 10 ^ 186 * (1 + t.nest)
  | .at x, _, h => by
    unfold Tr.sg at h
    have := shw_bd (x := x) (by omega)
    rw [Tr.e0]
    omega
  | .ov ps m s, ho, h => by
    have hf := ov_facts ho
    unfold Tr.ok at ho
    obtain ⟨h1, h2, h3, h4, h5, h6, h7⟩ := ho
    unfold Tr.sg at h
    have ih := e0L_bd h7 h1 h.2.2
    have ls : (TL.numL s).length ≤ 182 := by
      have := h.2.1
      unfold tailT at this
      simp at this
      omega
    have hs := Nat.lt_of_lt_of_le (numL_bd s) (Nat.pow_le_pow_right (by decide) ls)
    have hm : (m - 1) * s ≤ 1440 * 10 ^ 182 := Nat.mul_le_mul (by have := hf.2.2.1; omega) (by omega)
    have e : 1440 * 10 ^ 182 < 10 ^ 186 := by decide +kernel
    have e2 : (Tr.ov ps m s).nest = 1 + nestL ps := by rw [Tr.nest]
    rw [Tr.e0, e2, show 1 + (1 + nestL ps) = (1 + nestL ps) + 1 by omega, Nat.mul_succ]
    omega
theorem e0L_bd : ∀ {ts : List Tr}, okL_ ts → ts ≠ [] → sgL 183 ts → e0L ts < 10 ^ 186 * (1 + nestL ts)
  | [], _, ne, _ => absurd rfl ne
  | [t], ho, _, h => by
    unfold okL_ at ho
    unfold sgL at h
    rw [e0L_one, nestL_one]
    exact e0_bd ho.1 h.1
  | t :: x :: r, ho, _, h => by
    unfold okL_ at ho
    unfold sgL at h
    have ih := e0L_bd (ts := x :: r) ho.2 (by simp) h.2
    have e : nestL (t :: x :: r) = max t.nest (nestL (x :: r)) := by simp [nestL]
    rw [e0L_cons, e]
    exact Nat.lt_of_lt_of_le ih (Nat.mul_le_mul_left _ (by omega))
end
theorem read_bd {l : List Nat} {ts : List Tr} (h : readS l = some ts) (hs : SegOk 182 l) : okL_ ts ∧ nestL ts ≤ 8 ∧ fitL ts ∧ pcsL ts ≤ l.length ∧ rowT (txtL ts) = l ∧ risB ts = true ∧ (momsL ts).length ≤ 1440 ∧ ∀ n ∈ momsL ts, n < 10 ^ 190 := by
  obtain ⟨h1, h2⟩ := readS_inv h
  obtain ⟨h3, h4, h5, h6⟩ := readS_good h (hs.le (by decide))
  obtain ⟨h7, h8⟩ := Bool.and_eq_true_iff.mp h2
  refine ⟨h3, h4, h5, h6, h1, h7, of_decide_eq_true h8, fun n hn => ?_⟩
  have ne : ts ≠ [] := fun z => by
    rw [z] at hn
    unfold momsL at hn
    cases hn
  obtain ⟨wk, w1, w2, w3⟩ := okL_wk h3
  have hle := le_lastD (ris_sorted h3 h7) n hn
  rw [(w3 ne).2] at hle
  have e : rowT (txtL ts) = TL.joinL [44, 32] (txtL ts) := if_neg (by rw [txtL_map]; intro z; exact ne (List.map_eq_nil_iff.mp z))
  rw [← h1, e] at hs
  have hg := sgL_inv (w := []) (wkL_nz wk) (.inl rfl) (by rw [List.append_nil]; exact hs)
  have hb := e0L_bd h3 ne hg
  have h9 : 10 ^ 186 * (1 + nestL ts) ≤ 10 ^ 186 * 9 := Nat.mul_le_mul_left _ (by omega)
  have h10 : 10 ^ 186 * 9 < 10 ^ 190 := by decide +kernel
  omega
theorem rr_natB {K : PySem.W.Frag} {H : Hp} {q : Addr} {ns : List Nat} {Q : VK} (h : ∀ n ∈ ns, n < 10 ^ 190) (l : ns.length ≤ 8000) (e : H q = some (.lst (natV ns))) (k : Q (.str (txtI (ns.map fun n : Nat => (n : Int)))) H) : rRepr K [.ref q] H Q := by
  refine rr_ints (sq_lst ?_) (fun n hn => ?_) (by rw [List.length_map]; exact l) k
  · rw [e, List.map_map]
    rfl
  · obtain ⟨m, hm, rfl⟩ := List.mem_map.mp hn
    have h1 := h m hm
    have h2 : 10 ^ 190 < 10 ^ 200 := by decide +kernel
    exact decide_eq_true (by show ((m : Nat) : Int).natAbs < 10 ^ 200; omega)
end
section
def sp__law_right (K : PySem.W.Frag) : Sp := fun vs H Q _ => ∃ p, vs = [.ref p] ∧ Pot H p ∧ ∀ H', PotOn H H' p → Q (.bl true) H'
theorem fb__law_right {P : Program} {w : World} {K : PySem.W.Frag} {mg : Str → Option Value} {base : Heap} (T : Env K mg) : ∃ fd, FunD K "_law_right" "_law_right" (defArgs s__law_right) (defBody s__law_right) (defScope s__law_right) [] [] (He.ga K "_law_right") fd ∧ Fb P w K mg base 128 (He.ga K "_law_right") fd ["_law_pot_here"] (sp__law_right K) := by
  obtain ⟨fd, F⟩ := T.f__law_right
  refine ⟨fd, F, fb_of F sc__law_right (fun vs H Q E h => ?_) (fun cdv A outer s H vs Q E hr h => ?_)⟩
  · obtain ⟨p, rfl, _⟩ := h
    rfl
  · obtain ⟨p, rfl, hp, q⟩ := h
    refine ⟨_, (pss_cons (ps_set (i := 1) sc__law_right.nd rfl (Or.inl rfl) (c_call (ok__law_draw T) (hr.mono (by decide)) T.g__law_draw T.k__law_draw takes0 (pa_cons (pv 0) (pa_cons pe_int pa_nil))))
      (Evl.pss_cut (ps_set (i := 2) sc__law_right.nd rfl (Or.inl rfl) (c_call (ok__law_spoilt T) (hr.mono (by decide)) T.g__law_spoilt T.k__law_spoilt takes0 (pa_cons (pv 0) (pa_cons (pv 1) (pa_cons (c_call (ok__law_spread T) (hr.mono (by decide)) T.g__law_spread T.k__law_spread takes0 (pa_cons (pv 0) (pa_cons (pe_ix ix_list (pe_lst (pa_cons pe_int (pa_cons pe_int pa_nil))) (pe_callTy call_int1 (by rfl) T.n_int (by decide +kernel) (pa_cons (pe_cmpR op_in_seq (pv 1) (pe_tup (pa_cons pe_int (pa_cons pe_int pa_nil))) (by rfl)) pa_nil)) (fun _ _ => rfl)) pa_nil))) pa_nil)))))
      (pss_cons (ps_set (i := 3) sc__law_right.nd rfl (Or.inl rfl) (pe_tup pa_nil))
      (Evl.pss_cut (ps_if (pt_cmpR op_ne (pv 2) pe_str (nomark _))
      (pss_one (ps_set (i := 3) sc__law_right.nd rfl (Or.inl rfl) (c_call (ok__law_read T) (hr.mono (by decide)) T.g__law_read T.k__law_read takes0 (pa_cons (pv 2) pa_nil))))
      pss_nil)
      (pss_cons (ps_if (pt_cmpR op_isN (pv 3) pe_non (nomark _))
      (pss_one (ps_ret (c_call (ok__law_is_refused T) (hr.mono (by decide)) T.g__law_is_refused T.k__law_is_refused takes0 (pa_cons pe_int (pa_cons (pe_lst (pa_cons (pv 2) pa_nil)) pa_nil)))))
      pss_nil)
      (pss_cons (ps_if (pt_cmpR (op_neD hr.rm.units) (c_call (ok__law_word_of T) (hr.mono (by decide)) T.g__law_word_of T.k__law_word_of takes0 (pa_cons pe_int (pa_cons (pe_lst (pa_cons (pv 2) pa_nil)) pa_nil))) (pe_lst (pa_cons pe_str pa_nil)) (nomark _))
      (pss_one (ps_ret pe_bl))
      pss_nil)
      (pss_cons (ps_set (i := 4) sc__law_right.nd rfl (Or.inl rfl) (c_call (ok_read_spread T) (hr.mono (by decide)) T.g_read_spread T.k_read_spread takes0 (pa_cons (pv 2) pa_nil)))
      (pss_one (ps_ret (pe_and (pe_cmpR op_eq (pe_callTy (call_strO T.m_Spread_str (ok_Spread_str T) (hr.mono (by decide))) (by rfl) T.n_str (by decide +kernel) (pa_cons (pv 4) pa_nil)) (pv 2) (nomark _)) (pe_one (pe_cmpR op_eq (pe_callB (call_repr hr) (by rfl) T.n_repr (by decide +kernel) (pa_cons (c_meth0 (pv 4) T.c_Spread T.m_Spread_moments (ok_Spread_moments T) (hr.mono (by decide)) takes0) pa_nil)) (pe_callB (call_repr hr) (by rfl) T.n_repr (by decide +kernel) (pa_cons (c_call (ok__law_row_moments T (Nat.le_add_right 40 _) (all__law_moments T 10)) (hr.mono (by decide)) T.g__law_row_moments T.k__law_row_moments takes0 (pa_cons (pv 3) pa_nil)) pa_nil)) (nomark _))))))))))))), ?_⟩
    refine ⟨_, rfl, p, 8, rfl, hp, (by decide), (by decide), fun w H1 w0 w1 P1 => ?_⟩
    obtain ⟨w, rfl⟩ := Int.eq_ofNat_of_zero_le w0
    refine ⟨fun σ' H' => ∃ l : List Nat, σ' = [some (.ref p), some (.int (w : Nat)), some (.str (SX.S l)), none, none] ∧ PotOn H H' p ∧ l.length ≤ 9500 ∧ SegOk 182 l, ?_, ?_⟩
    · refine ⟨_, rfl, _, rfl, _, rfl, ?_⟩
      refine ⟨(by decide), ?_⟩
      intro a1 na1
      have Xa1 := ex_new (o := HO.lst [V.int 40, V.int 28]) na1
      have ha1 : upd H1 a1 (HO.lst [V.int 40, V.int 28]) a1 = some (HO.lst [V.int 40, V.int 28]) := upd_same
      generalize upd H1 a1 (HO.lst [V.int 40, V.int 28]) = Ga1 at Xa1 ha1 ⊢
      refine ⟨_, rfl, (by decide), ?_⟩
      intro a2 na2
      have Xa2 := ex_new (o := HO.tup [V.int 4, V.int 5]) na2
      have ha2 : upd Ga1 a2 (HO.tup [V.int 4, V.int 5]) a2 = some (HO.tup [V.int 4, V.int 5]) := upd_same
      generalize upd Ga1 a2 (HO.tup [V.int 4, V.int 5]) = Ga2 at Xa2 ha2 ⊢
      refine ⟨_, _, rfl, (.inr (sq_tup ha2)), rfl, rfl, ?_⟩
      try dsimp only [tNil]
      generalize hb : (if false = true then !inV (V.int ((w : Nat) : Int)) [V.int 4, V.int 5] else inV (V.int ((w : Nat) : Int)) [V.int 4, V.int 5]) = bb
      obtain ⟨mo, m1, m2, em⟩ : ∃ mo : Nat, 1 ≤ mo ∧ mo ≤ 40 ∧ atI [V.int 40, V.int 28] (if bb = true then 1 else 0) = some (.int (mo : Nat)) := by
        cases bb with
        | true => exact ⟨28, by decide, by decide, rfl⟩
        | false => exact ⟨40, by decide, by decide, rfl⟩
      have R2 := (P1.ex2 Xa1).ex2 Xa2
      refine .inr ⟨_, rfl, a1, _, _, _, rfl, rfl, sq_lst (Xa2 _ _ ha1), em, p, mo, rfl, R2.1, m1, fun r as ts H3 hr3 hD3 ok nest ris len moms pcs P3 => ?_⟩
      have R3 := R2.trans P3
      exact ⟨p, r, as, ts, w, rfl, R3.1, by omega, hr3, hD3, fun ne => ⟨ne, ok, nest, ris, len, moms, by omega⟩, fun l H4 l1 l2 P4 => ⟨l, rfl, R3.trans P4, l1, l2⟩⟩
    rintro σ' H2 ⟨l, rfl, P2, hl, hs⟩
    refine ⟨(by decide), fun r0 n0 => ?_⟩
    have R3 := pot_new (o := .tup []) P2 n0
    have h0 : upd H2 r0 (.tup []) r0 = some (.tup []) := upd_same
    generalize upd H2 r0 (.tup []) = H3 at R3 h0 ⊢
    refine ⟨fun σ' H' => ∃ x : V, σ' = [some (.ref p), some (.int (w : Nat)), some (.str (SX.S l)), some x, none] ∧ PotOn H H' p ∧ ((readS l = none ∧ x = .non) ∨ (∃ (ts : List Tr) (r : Addr) (as : List Addr), readS l = some ts ∧ x = .ref r ∧ H' r = some (.tup (as.map V.ref)) ∧ DtsAt H' ts as)), ?_, ?_⟩
    · by_cases e45 : l = [45]
      · subst e45
        refine ⟨_, rfl, rfl, _, rfl, _, rfl, R3, ?_⟩
        exact .inr ⟨[], r0, [], rfl, rfl, h0, by unfold DtsAt; rfl⟩
      · refine ⟨_, rfl, rfl, _, rfl, ifnN (vstr_ne (b := [45]) e45) ?_⟩
        refine ⟨_, rfl, l, rfl, by omega, hs.le (by decide), fun e H4 X4 => ?_, fun ts e r as H4 X4 _ h4 hD => ?_⟩
        · exact ⟨_, rfl, R3.ex2 X4, .inl ⟨by rw [lread_readS (hs.le (by decide)) e45, e], rfl⟩⟩
        · exact ⟨_, rfl, R3.ex2 X4, .inr ⟨ts, r, as, by rw [lread_readS (hs.le (by decide)) e45, e], rfl, h4, hD⟩⟩
    rintro σ' H4 ⟨x, rfl, P4, ⟨hn, rfl⟩ | ⟨ts, r, as, hr5, rfl, hr4, hD4⟩⟩
    · refine ⟨_, rfl, rfl, _, rfl, iteT ?_⟩
      refine ⟨_, rfl, (by show 1 ≤ sizeLine; decide), fun u nu => ?_⟩
      have R5 := P4.ex2 (ex_new (o := .lst [.str (SX.S l)]) nu)
      exact ⟨u, _, rfl, upd_same, .inl ⟨l, rfl, by omega, hs.le (by decide), by rw [hn]; rfl⟩, fun H5 X5 => q H5 (R5.ex2 X5)⟩
    obtain ⟨g1, g2, g3, g4, g5, g6, g7, g8⟩ := read_bd hr5 hs
    refine ⟨_, rfl, rfl, _, rfl, iteF ?_⟩
    refine ⟨_, rfl, (by show 1 ≤ sizeLine; decide), fun u nu => ?_⟩
    have X5 := ex_new (o := .lst [.str (SX.S l)]) nu
    refine ⟨u, _, true, rfl, upd_same, .inl ⟨l, rfl, by omega, hs.le (by decide), by rw [hr5]; rfl⟩, fun f H6 X6 hf => ?_⟩
    have X46 := X5.trans X6
    refine ⟨(by show 1 ≤ sizeLine; decide), fun v nv => ?_⟩
    have X47 := X46.trans (ex_new (o := .lst [.str "told"]) nv)
    refine ⟨.list [.str "told"], .list [.str "told"], .lst (sq_lst (ex_new nv _ _ hf)) (.cons (.str _) .nil), .lst (sq_lst upd_same) (.cons (.str _) .nil), (by decide +kernel), (by decide +kernel), ?_⟩
    rw [SeqAt.eqv_refl _ (show PyData.canLay0 (.list [.str "told"]) = true by decide +kernel)]
    refine ⟨_, rfl, iteF ?_⟩
    generalize upd H6 v (.lst [.str "told"]) = H7 at X47 ⊢
    refine ⟨_, rfl, _, rfl, .inl ⟨l, rfl, by omega, hs.le (by decide), fun ts' e a H8 X8 na hS _ => ?_, fun z => by rw [hr5] at z; cases z⟩⟩
    have et : ts = ts' := by rw [hr5] at e; cases e; rfl
    subst et
    obtain ⟨dx, kp, hd, as2, hx, _⟩ := id hS
    have X48 := X47.trans X8
    refine ⟨_, rfl, a, dx, _, rfl, hx, a, ts, rfl, hS, by omega, g3, by omega, fun H9 X9 => ⟨trivial, _, rfl, ?_⟩⟩
    rw [g5]
    refine ⟨rfl, _, rfl, ?_⟩
    try dsimp only [tNil]
    refine ifP rfl ?_
    refine ⟨_, rfl, a, dx, _, rfl, X9 _ _ hx, rfl, a, ts, rfl, hS.mono X9, fun z nz => rr_natB g8 (by omega) upd_same ?_⟩
    have X49 := X48.trans (X9.trans (ex_new (o := .lst (natV (momsL ts))) nz))
    refine ⟨_, rfl, r, as, ts, rfl, X49 _ _ hr4, hD4.mono X49, fun t ht => by have := nestL_mem ht; omega, g1, g7, fun y HA XA ny hy => rr_natB g8 (by omega) hy ?_⟩
    have RA := P4.ex2 (X49.trans XA)
    refine ⟨rfl, ?_⟩
    try dsimp only [tNil]
    rw [decide_eq_true rfl]
    exact q HA RA
theorem ok__law_right {P : Program} {w : World} {K : PySem.W.Frag} {mg : Str → Option Value} {base : Heap} (T : Env K mg) : Fc P w K mg base 128 (He.ga K "_law_right") [] (sp__law_right K ) := by
  obtain ⟨fd, D, F⟩ := fb__law_right T
  exact F.all (D.bindsN fun _ _ _ _ _ _ us hl => match us, hl with | [_], _ => rfl)
end
section
/-- what is no text, and no pot -/
inductive OddR (K : PySem.W.Frag) (p : Addr) (H : Hp) : V → Prop where
  | non : OddR K p H .non
  | int (i : Int) : OddR K p H (.int i)
  | bl (b : Bool) : OddR K p H (.bl b)
  | lst {a : Addr} {xs : List V} (h : H a = some (.lst xs)) (n : a ≠ p) : OddR K p H (.ref a)
  | tup {a : Addr} {xs : List V} (h : H a = some (.tup xs)) (n : a ≠ p) : OddR K p H (.ref a)
  | dK {a : Addr} {kvs : List (Key × V)} (h : H a = some (.dK kvs)) (n : a ≠ p) : OddR K p H (.ref a)
  | at {a dx : Addr} {fs : List (Str × V)} (h : H a = some (.ins (He.ga K "At") dx fs)) (n : a ≠ p) : OddR K p H (.ref a)
  | ov {a dx : Addr} {fs : List (Str × V)} (h : H a = some (.ins (He.ga K "Over") dx fs)) (n : a ≠ p) : OddR K p H (.ref a)
  | spr {a dx : Addr} {fs : List (Str × V)} (h : H a = some (.ins (He.ga K "Spread") dx fs)) (n : a ≠ p) : OddR K p H (.ref a)
theorem OddR.keep {K : PySem.W.Frag} {p : Addr} {H G : Hp} {x : V} (h : OddR K p H x) (k : ∀ b o, b ≠ p → H b = some o → G b = some o) : OddR K p G x := by
  cases h with
  | non => exact .non
  | int i => exact .int i
  | bl b => exact .bl b
  | lst h n => exact .lst (k _ _ n h) n
  | tup h n => exact .tup (k _ _ n h) n
  | dK h n => exact .dK (k _ _ n h) n
  | «at» h n => exact .at (k _ _ n h) n
  | ov h n => exact .ov (k _ _ n h) n
  | spr h n => exact .spr (k _ _ n h) n
theorem OddR.mono {K : PySem.W.Frag} {p : Addr} {H G : Hp} {x : V} (h : OddR K p H x) (e : Ex H G) : OddR K p G x := h.keep fun b o _ z => e b o z
theorem OddR.rdx {K : PySem.W.Frag} {mg : Str → Option Value} (T : Env K mg) {p : Addr} {H : Hp} {x : V} (h : OddR K p H x) : RdX K H x false := by
  refine .inr ?_
  cases h with
  | non => exact ⟨_, .base .non, rfl, rfl⟩
  | int i => exact ⟨_, .base (.int i), rfl, rfl⟩
  | bl b => exact ⟨_, .base (.bl b), rfl, rfl⟩
  | lst h n => exact ⟨_, .base (.lst h), rfl, rfl⟩
  | tup h n => exact ⟨_, .base (.tup h), rfl, rfl⟩
  | dK h n => exact ⟨_, .base (.dK h), rfl, rfl⟩
  | «at» h n => exact ⟨_, ty_ins T.i_At T.c_At h, T.kit_At_str, rfl⟩
  | ov h n => exact ⟨_, ty_ins T.i_Over T.c_Over h, T.kit_Over_str, rfl⟩
  | spr h n => exact ⟨_, ty_ins T.i_Spread T.c_Spread h, T.kit_Spread_str, rfl⟩
def sp_law (K : PySem.W.Frag) : Sp := fun vs H Q _ => ∃ (a : Addr) (ns : List Int), vs = [.ref a] ∧ SqL K H a (ns.map V.int) ∧ ns.length ≤ 63 ∧ ∀ H', Q (.bl true) H'
theorem ok_law {P : Program} {w : World} {K : PySem.W.Frag} {mg : Str → Option Value} {base : Heap} (T : Env K mg) {fd : FuncData} (F : FunD K "law" "law" (defArgs s_law) (defBody s_law) (defScope s_law) [] [] (He.ga K "law") fd) : Fb P w K mg base 140 (He.ga K "law") fd ["_law_script"] (sp_law K) := by
  refine fb_of F sc_law (fun vs H Q E h => ?_) (fun cdv A outer s H vs Q E hr h => ?_)
  · obtain ⟨a, ns, rfl, _⟩ := h
    rfl
  · obtain ⟨a, ns, rfl, hS, hl, q⟩ := h
    refine ⟨_, (pss_cons (ps_for (passes_of rfl) rfl (pi_range1 (by rfl) T.n_range (pa_cons (pe_callB (call_max2 rfl) (by rfl) T.n_max (by decide +kernel) (pa_cons pe_int (pa_cons (pe_callB (call_min2 rfl) (by rfl) T.n_min (by decide +kernel) (pa_cons (pe_callB call_len (by rfl) T.n_len (by decide +kernel) (pa_cons (pv 0) pa_nil)) (pa_cons pe_int pa_nil))) pa_nil))) pa_nil)) (pg_name (i := 1) sc_law.nd rfl (Or.inl rfl))
      (pss_cons (ps_set (i := 2) sc_law.nd rfl (Or.inl rfl) (c_call (ok__law_pot T) (hr.mono (by decide)) T.g__law_pot T.k__law_pot takes0 (pa_cons (pv 0) (pa_cons (pv 1) pa_nil))))
      (Evl.pss_cut (ps_set (i := 3) sc_law.nd rfl (Or.inl rfl) (pe_lst (pa_cons pe_non (pa_cons pe_int (pa_cons pe_int (pa_cons pe_bl (pa_cons (pe_lst (pa_cons pe_str pa_nil)) (pa_cons (pe_tup (pa_cons pe_str pa_nil)) (pa_cons pe_dnewK (pa_cons (c_make T.mk_At (ok_At_init T) (hr.mono (by decide)) T.g_At takes0 (pa_cons pe_int pa_nil)) pa_nil))))))))))
      (Evl.pss_cut (ps_set (i := 3) sc_law.nd rfl (Or.inl rfl) (pe_op op_cat (pv 3) (pe_lst (pa_cons (c_make T.mk_Spread (ok_Spread_init T) (hr.mono (by decide)) T.g_Spread takes0 (pa_cons (pe_lst (pa_cons (c_make T.mk_At (ok_At_init T) (hr.mono (by decide)) T.g_At takes0 (pa_cons pe_int pa_nil)) pa_nil)) pa_nil)) (pa_cons (c_make T.mk_Over (ok_Over_init T) (hr.mono (by decide)) T.g_Over takes0 (pa_cons (pe_lst (pa_cons (c_make T.mk_At (ok_At_init T) (hr.mono (by decide)) T.g_At takes0 (pa_cons pe_int pa_nil)) pa_nil)) (pa_cons pe_int (pa_cons pe_int pa_nil)))) pa_nil)))))
      (pss_one (ps_if (PW.pt (pw_or (pt_not (pt_val (c_call (ok__law_is_refused T) (hr.mono (by decide)) T.g__law_is_refused T.k__law_is_refused takes0 (pa_cons pe_int (pa_cons (pe_lst (pa_cons (pe_ix ix_list (pv 3) (c_call (ok__law_draw T) (hr.mono (by decide)) T.g__law_draw T.k__law_draw takes0 (pa_cons (pv 2) (pa_cons pe_int pa_nil))) (fun _ _ => rfl)) pa_nil)) pa_nil))))) (pw_or1 (pt_not (pt_val (c_call (ok__law_right T) (hr.mono (by decide)) T.g__law_right T.k__law_right takes0 (pa_cons (pv 2) pa_nil)))))))
      (pss_one (ps_ret pe_bl))
      pss_nil))))))
      (pss_one (ps_ret (c_call (ok__law_is_refused T) (hr.mono (by decide)) T.g__law_is_refused T.k__law_is_refused takes0 (pa_cons pe_int (pa_cons (pe_lst (pa_cons pe_str pa_nil)) pa_nil)))))), ?_⟩
    refine ⟨_, rfl, _, _, rfl, .inl ⟨_, hS, rfl⟩, _, _, rfl, _, _, rfl, _, rfl, (turns_lo 4 _ (by decide)), (turns_hi 4 _ (by decide)), for_range (fun i σ H' => Ex H H' ∧ ∃ v1 v2 v3, σ = [some (.ref a), v1, v2, v3]) ⟨.refl H, _, _, _, rfl⟩ ?_ ?_⟩
    · rintro i σ H1 hi ⟨X1, v1, v2, v3, rfl⟩
      have i1 : i < 1000 := turns_lt 4 _ (by decide) hi
      refine ⟨_, rfl, _, rfl, a, ns, _, rfl, ex_sql X1 hS, by omega, by omega, fun p H2 np P2 K2 => ?_⟩
      have X2 : Ex H H2 := fun b o e => by rw [K2 b (ne_of_none (X1 b o e) np)]; exact X1 b o e
      have hp0 : H p = none := ex_fresh X1 np
      have hp2 : Pot H2 p := P2
      obtain ⟨pa, pb, hpl, _⟩ := id hp2
      refine ⟨fun σ' H' => ∃ (u b8 : Addr) (x4 x5 x6 : V), σ' = [some (.ref a), some (.int (0 + (i : Int))), some (.ref p), some (.ref u)] ∧ Ex H2 H' ∧ H' u = some (.lst [.non, .int 7, .int 0, .bl true, x4, x5, x6, .ref b8]) ∧ OddR K p H' x4 ∧ OddR K p H' x5 ∧ OddR K p H' x6 ∧ OddR K p H' (.ref b8) ∧ u ≠ p, ?_, ?_⟩
      · refine ⟨(by decide), ?_⟩
        intro a1 na1
        have Xa1 := ex_new (o := HO.lst [V.str (Str.ofString "7:00")]) na1
        have ha1 : upd H2 a1 (HO.lst [V.str (Str.ofString "7:00")]) a1 = some (HO.lst [V.str (Str.ofString "7:00")]) := upd_same
        generalize upd H2 a1 (HO.lst [V.str (Str.ofString "7:00")]) = Ga1 at Xa1 ha1 ⊢
        refine ⟨(by decide), ?_⟩
        intro a2 na2
        have Xa2 := ex_new (o := HO.tup [V.str (Str.ofString "7:00")]) na2
        have ha2 : upd Ga1 a2 (HO.tup [V.str (Str.ofString "7:00")]) a2 = some (HO.tup [V.str (Str.ofString "7:00")]) := upd_same
        generalize upd Ga1 a2 (HO.tup [V.str (Str.ofString "7:00")]) = Ga2 at Xa2 ha2 ⊢
        try dsimp only [tNil]
        intro d0 nd0
        have Xd := ex_new (o := .dK []) nd0
        have hd0 : upd Ga2 d0 (.dK []) d0 = some (.dK []) := upd_same
        generalize upd Ga2 d0 (.dK []) = G3 at Xd hd0 ⊢
        have R1 := PotOn.refl hp2
        have R2 := R1.ex2 Xa1
        have R3 := R2.ex2 Xa2
        have R4 := R3.ex2 Xd
        refine fun o dx no nd ne => at_new (n := 420) no nd ne fun G5 X5 hAt => ⟨rfl, ?_⟩
        have op := pot_ne R4 no
        refine ⟨(by show 8 ≤ sizeLine; decide), fun u nu => ?_⟩
        have XL : Ex G3 (upd G5 u (.lst [.non, .int 7, .int 0, .bl true, .ref a1, .ref a2, .ref d0, .ref o])) := X5.trans (ex_new nu)
        obtain ⟨dy, hdy⟩ := hAt
        refine ⟨u, o, .ref a1, .ref a2, .ref d0, rfl, Xa1.trans (Xa2.trans (Xd.trans XL)), upd_same, ?_, ?_, ?_, ?_, ?_⟩
        · exact .lst (XL _ _ (Xd _ _ (Xa2 _ _ ha1))) (pot_ne R1 na1)
        · exact .tup (XL _ _ (Xd _ _ ha2)) (pot_ne R2 na2)
        · exact .dK (XL _ _ hd0) (pot_ne R3 nd0)
        · exact .at (ex_new nu _ _ hdy) op
        · exact pot_ne (R4.ex2 X5) nu
      rintro σ' H3 ⟨u, b8, x4, x5, x6, rfl, X3, hu, o4, o5, o6, o8, up⟩
      refine ⟨fun σ' H' => ∃ (u : Addr) (xs : List V), σ' = [some (.ref a), some (.int (0 + (i : Int))), some (.ref p), some (.ref u)] ∧ Ex H2 H' ∧ H' u = some (.lst xs) ∧ xs.length = 10 ∧ (∀ x ∈ xs, OddR K p H' x) ∧ u ≠ p, ?_, ?_⟩
      · refine ⟨_, rfl, ?_⟩
        try dsimp only [tNil]
        have R3 := (PotOn.refl hp2).ex2 X3
        refine fun o dx no nd ne => at_new (n := 420) no nd ne fun G5 X5 hAt => ⟨rfl, ?_⟩
        refine ⟨(by show 1 ≤ sizeLine; decide), fun l nl => ?_⟩
        have Xl := ex_new (o := .lst [.ref o]) nl
        have hl : upd G5 l (.lst [.ref o]) l = some (.lst [.ref o]) := upd_same
        have hAt := hAt.mono Xl
        generalize upd G5 l (.lst [.ref o]) = G6 at Xl hl hAt ⊢
        have X36 := X5.trans Xl
        have hS : ShsAt K G6 [.at 420] [o] := by
          unfold ShsAt
          exact ⟨o, [], rfl, by unfold ShAt; exact hAt, by unfold ShsAt; rfl⟩
        refine fun s ds ns nds nes => spread_new (as := [o]) ns nds nes (.inl hl) hS (by decide +kernel) (okL_one (by unfold Tr.ok; trivial)) (by decide +kernel) fun G7 X7 hSp => ⟨rfl, ?_⟩
        have R7 := R3.ex2 (X36.trans X7)
        have sp := pot_ne (R3.ex2 X36) ns
        refine fun o2 dx2 no2 nd2 ne2 => at_new (n := 1) no2 nd2 ne2 fun G8 X8 hAt2 => ⟨rfl, ?_⟩
        refine ⟨(by show 1 ≤ sizeLine; decide), fun l2 nl2 => ?_⟩
        have Xl2 := ex_new (o := .lst [.ref o2]) nl2
        have hl2 : upd G8 l2 (.lst [.ref o2]) l2 = some (.lst [.ref o2]) := upd_same
        have hAt2 := hAt2.mono Xl2
        generalize upd G8 l2 (.lst [.ref o2]) = G9 at Xl2 hl2 hAt2 ⊢
        have X79 := X8.trans Xl2
        have hS2 : ShsAt K G9 [.at 1] [o2] := by
          unfold ShsAt
          exact ⟨o2, [], rfl, by unfold ShAt; exact hAt2, by unfold ShsAt; rfl⟩
        have hok2 : (Tr.ov [.at 1] 2 3).ok := by
          unfold Tr.ok
          exact ⟨by simp, by decide, by decide, by decide +kernel, by decide +kernel, by decide +kernel, okL_one (by unfold Tr.ok; trivial)⟩
        refine fun ov dv nv ndv nev => ⟨rfl, over_newT (as := [o2]) nv ndv nev (.inl hl2) hS2 hok2 (by decide +kernel) fun GA XA hOv => ⟨rfl, ?_⟩⟩
        have vp := pot_ne (R7.ex2 X79) nv
        refine ⟨(by show 2 ≤ sizeLine; decide), fun m nm => ?_⟩
        have Xm := ex_new (o := .lst [.ref s, .ref ov]) nm
        have X7A := X79.trans (XA.trans Xm)
        have X3A := X36.trans (X7.trans X7A)
        refine ⟨_, _, _, _, rfl, rfl, X3A _ _ hu, upd_same, (by show 10 ≤ sizeLine; decide), fun u9 nu9 => ?_⟩
        have XZ := ex_new (o := .lst [V.non, V.int 7, V.int 0, V.bl true, x4, x5, x6, V.ref b8, .ref s, .ref ov]) nu9
        have X3Z := X3A.trans XZ
        obtain ⟨dz, kz, hz, az, hsz, _⟩ := hSp
        unfold ShAt at hOv
        obtain ⟨dw, kw, aw, hvw, _⟩ := hOv
        refine ⟨u9, _, rfl, X3.trans X3Z, upd_same, rfl, fun x hx => ?_, pot_ne (R3.ex2 X3A) nu9⟩
        simp only [List.cons_append, List.nil_append, List.mem_cons, List.not_mem_nil, or_false] at hx
        rcases hx with rfl | rfl | rfl | rfl | rfl | rfl | rfl | rfl | rfl | rfl
        · exact .non
        · exact .int _
        · exact .int _
        · exact .bl _
        · exact o4.mono X3Z
        · exact o5.mono X3Z
        · exact o6.mono X3Z
        · exact o8.mono X3Z
        · exact .spr (XZ _ _ (X7A _ _ hsz)) sp
        · exact .ov (XZ _ _ (Xm _ _ hvw)) vp
      rintro σ' H4 ⟨u2, xs, rfl, X4, hu2, lx, hx, up2⟩
      refine ⟨_, rfl, _, rfl, _, _, rfl, ?_⟩
      have R4 := (PotOn.refl hp2).ex2 X4
      refine ⟨R4.1, (by decide), (by decide), fun d H5 d0 d1 P5 => ?_⟩
      obtain ⟨x, xm, ex⟩ := at_mem (xs := xs) d0 (by rw [lx]; exact d1)
      refine ⟨u2, _, _, _, rfl, rfl, sq_lst (P5.2 _ _ up2 hu2), ex, (by show 1 ≤ sizeLine; decide), fun v nv => ?_⟩
      have R5 := R4.trans P5
      have Xv := ex_new (o := .lst [x]) nv
      refine ⟨v, x, rfl, upd_same, (((hx x xm).keep P5.2).mono Xv).rdx T, fun H6 X6 => ⟨true, rfl, iteF ?_⟩⟩
      have R6 := (R5.ex2 Xv).ex2 X6
      refine ⟨_, rfl, p, rfl, R6.1, fun H7 P7 => ⟨true, rfl, iteF ⟨?_, _, _, _, rfl⟩⟩⟩
      have kk := R6.trans P7
      exact fun b o e => kk.2 b o (ne_of_none e hp0) (X2 b o e)
    · rintro σ H1 ⟨_, _, _, _, rfl⟩
      refine ⟨(by show 1 ≤ sizeLine; decide), fun u nu => ?_⟩
      exact ⟨u, _, rfl, upd_same, .inl ⟨[], rfl, by decide, fun i => by rw [List.drop_nil]; exact Nat.zero_le _, by decide⟩, fun H5 X5 => q H5⟩
end
end Toy
namespace Toy
open PySem PySem.Spec PyProof.Rows L2 L3
theorem env_of {K : PySem.W.Frag} {h : Heap} {mg : Str → Option Value} (X : K.In h) (G : h.Ns mainGlobals mg) (c : SaysX xf fn K) : Env K mg :=
  ⟨He.glo_ok X G (c.fact 0 (f := fun K => (He.Fa.glo "is_whole").ok K) rfl),
  He.glo_ok X G (c.fact 1 (f := fun K => (He.Fa.glo "is_moment").ok K) rfl),
  He.glo_ok X G (c.fact 2 (f := fun K => (He.Fa.glo "want_moment").ok K) rfl),
  He.glo_ok X G (c.fact 3 (f := fun K => (He.Fa.glo "want_below").ok K) rfl),
  He.glo_ok X G (c.fact 4 (f := fun K => (He.Fa.glo "moment_at").ok K) rfl),
  He.glo_ok X G (c.fact 5 (f := fun K => (He.Fa.glo "clock_of").ok K) rfl),
  He.glo_ok X G (c.fact 6 (f := fun K => (He.Fa.glo "show_moment").ok K) rfl),
  He.glo_ok X G (c.fact 7 (f := fun K => (He.Fa.glo "are_figures").ok K) rfl),
  He.glo_ok X G (c.fact 8 (f := fun K => (He.Fa.glo "number_of").ok K) rfl),
  He.glo_ok X G (c.fact 9 (f := fun K => (He.Fa.glo "day_of").ok K) rfl),
  He.glo_ok X G (c.fact 10 (f := fun K => (He.Fa.glo "read_moment").ok K) rfl),
  He.glo_ok X G (c.fact 11 (f := fun K => (He.Fa.glo "is_number").ok K) rfl),
  He.glo_ok X G (c.fact 12 (f := fun K => (He.Fa.glo "all_rising").ok K) rfl),
  He.glo_ok X G (c.fact 13 (f := fun K => (He.Fa.glo "shorts_in").ok K) rfl),
  He.glo_ok X G (c.fact 14 (f := fun K => (He.Fa.glo "row_moments").ok K) rfl),
  He.glo_ok X G (c.fact 15 (f := fun K => (He.Fa.glo "row_many").ok K) rfl),
  He.glo_ok X G (c.fact 16 (f := fun K => (He.Fa.glo "row_text").ok K) rfl),
  He.glo_ok X G (c.fact 17 (f := fun K => (He.Fa.glo "number_in").ok K) rfl),
  He.glo_ok X G (c.fact 18 (f := fun K => (He.Fa.glo "at_in").ok K) rfl),
  He.glo_ok X G (c.fact 19 (f := fun K => (He.Fa.glo "item_end").ok K) rfl),
  He.glo_ok X G (c.fact 20 (f := fun K => (He.Fa.glo "over_in").ok K) rfl),
  He.glo_ok X G (c.fact 21 (f := fun K => (He.Fa.glo "read_on").ok K) rfl),
  He.glo_ok X G (c.fact 22 (f := fun K => (He.Fa.glo "read_spread").ok K) rfl),
  He.glo_ok X G (c.fact 23 (f := fun K => (He.Fa.glo "_law_pot").ok K) rfl),
  He.glo_ok X G (c.fact 24 (f := fun K => (He.Fa.glo "_law_draw").ok K) rfl),
  He.glo_ok X G (c.fact 25 (f := fun K => (He.Fa.glo "_law_moments").ok K) rfl),
  He.glo_ok X G (c.fact 26 (f := fun K => (He.Fa.glo "_law_row_moments").ok K) rfl),
  He.glo_ok X G (c.fact 27 (f := fun K => (He.Fa.glo "_law_wide").ok K) rfl),
  He.glo_ok X G (c.fact 28 (f := fun K => (He.Fa.glo "_law_gap").ok K) rfl),
  He.glo_ok X G (c.fact 29 (f := fun K => (He.Fa.glo "_law_short").ok K) rfl),
  He.glo_ok X G (c.fact 30 (f := fun K => (He.Fa.glo "_law_row").ok K) rfl),
  He.glo_ok X G (c.fact 31 (f := fun K => (He.Fa.glo "_law_spread").ok K) rfl),
  He.glo_ok X G (c.fact 32 (f := fun K => (He.Fa.glo "_law_time").ok K) rfl),
  He.glo_ok X G (c.fact 33 (f := fun K => (He.Fa.glo "_law_word").ok K) rfl),
  He.glo_ok X G (c.fact 34 (f := fun K => (He.Fa.glo "_law_text").ok K) rfl),
  He.glo_ok X G (c.fact 35 (f := fun K => (He.Fa.glo "_law_word_of").ok K) rfl),
  He.glo_ok X G (c.fact 36 (f := fun K => (He.Fa.glo "_law_is_refused").ok K) rfl),
  He.glo_ok X G (c.fact 37 (f := fun K => (He.Fa.glo "_law_begin").ok K) rfl),
  He.glo_ok X G (c.fact 38 (f := fun K => (He.Fa.glo "_law_end").ok K) rfl),
  He.glo_ok X G (c.fact 39 (f := fun K => (He.Fa.glo "_law_many").ok K) rfl),
  He.glo_ok X G (c.fact 40 (f := fun K => (He.Fa.glo "_law_is_row").ok K) rfl),
  He.glo_ok X G (c.fact 41 (f := fun K => (He.Fa.glo "_law_number").ok K) rfl),
  He.glo_ok X G (c.fact 42 (f := fun K => (He.Fa.glo "_law_at_in").ok K) rfl),
  He.glo_ok X G (c.fact 43 (f := fun K => (He.Fa.glo "_law_over_in").ok K) rfl),
  He.glo_ok X G (c.fact 44 (f := fun K => (He.Fa.glo "_law_stop").ok K) rfl),
  He.glo_ok X G (c.fact 45 (f := fun K => (He.Fa.glo "_law_next").ok K) rfl),
  He.glo_ok X G (c.fact 46 (f := fun K => (He.Fa.glo "_law_read").ok K) rfl),
  He.glo_ok X G (c.fact 47 (f := fun K => (He.Fa.glo "_law_signs").ok K) rfl),
  He.glo_ok X G (c.fact 48 (f := fun K => (He.Fa.glo "_law_over_bent").ok K) rfl),
  He.glo_ok X G (c.fact 49 (f := fun K => (He.Fa.glo "_law_row_bent").ok K) rfl),
  He.glo_ok X G (c.fact 50 (f := fun K => (He.Fa.glo "_law_spoilt").ok K) rfl),
  He.glo_ok X G (c.fact 51 (f := fun K => (He.Fa.glo "_law_right").ok K) rfl),
  He.glo_ok X G (c.fact 52 (f := fun K => (He.Fa.glo "law").ok K) rfl),
  gint_of X G (c.fact 53 (f := fun K => (He.Fa.int "HOUR" (60)).ok K) rfl),
  gint_of X G (c.fact 54 (f := fun K => (He.Fa.int "DAY" (1440)).ok K) rfl),
  gint_of X G (c.fact 55 (f := fun K => (He.Fa.int "HOURS" (24)).ok K) rfl),
  gstr_of X G (c.fact 56 (f := fun K => (He.Fa.str "FIGURES_clock" "0123456789").ok K) rfl),
  gstr_of X G (c.fact 57 (f := fun K => (He.Fa.str "COLON" ":").ok K) rfl),
  gstr_of X G (c.fact 58 (f := fun K => (He.Fa.str "BLANK" " ").ok K) rfl),
  gint_of X G (c.fact 59 (f := fun K => (He.Fa.int "MOST_MOMENTS" (1440)).ok K) rfl),
  gint_of X G (c.fact 60 (f := fun K => (He.Fa.int "MOST_NESTED" (8)).ok K) rfl),
  gstr_of X G (c.fact 61 (f := fun K => (He.Fa.str "NO_PARTS" "-").ok K) rfl),
  gstr_of X G (c.fact 62 (f := fun K => (He.Fa.str "FIGURES_spreads" "0123456789").ok K) rfl),
  He.free_ok X G (c.fact 63 (f := fun K => (He.Fa.free "ValueError").ok K) rfl),
  He.free_ok X G (c.fact 64 (f := fun K => (He.Fa.free "all").ok K) rfl),
  He.free_ok X G (c.fact 65 (f := fun K => (He.Fa.free "bool").ok K) rfl),
  He.free_ok X G (c.fact 66 (f := fun K => (He.Fa.free "divmod").ok K) rfl),
  He.free_ok X G (c.fact 67 (f := fun K => (He.Fa.free "int").ok K) rfl),
  He.free_ok X G (c.fact 68 (f := fun K => (He.Fa.free "isinstance").ok K) rfl),
  He.free_ok X G (c.fact 69 (f := fun K => (He.Fa.free "len").ok K) rfl),
  He.free_ok X G (c.fact 70 (f := fun K => (He.Fa.free "list").ok K) rfl),
  He.free_ok X G (c.fact 71 (f := fun K => (He.Fa.free "max").ok K) rfl),
  He.free_ok X G (c.fact 72 (f := fun K => (He.Fa.free "min").ok K) rfl),
  He.free_ok X G (c.fact 73 (f := fun K => (He.Fa.free "range").ok K) rfl),
  He.free_ok X G (c.fact 74 (f := fun K => (He.Fa.free "repr").ok K) rfl),
  He.free_ok X G (c.fact 75 (f := fun K => (He.Fa.free "str").ok K) rfl),
  He.free_ok X G (c.fact 76 (f := fun K => (He.Fa.free "sum").ok K) rfl),
  He.free_ok X G (c.fact 77 (f := fun K => (He.Fa.free "tuple").ok K) rfl),
  He.free_ok X G (c.fact 78 (f := fun K => (He.Fa.free "zip").ok K) rfl),
  He.glo_ok X G (c.fact 79 (f := fun K => (He.Fa.glo "GoingError").ok K) rfl),
  He.glo_ok X G (c.fact 80 (f := fun K => (He.Fa.glo "NoTime").ok K) rfl),
  exo_of (c.fact 81 (f := exoB bmV "ValueError.__new__" "NoTime") rfl),
  He.glo_ok X G (c.fact 82 (f := fun K => (He.Fa.glo "NoPiece").ok K) rfl),
  exo_of (c.fact 83 (f := exoB bmV "ValueError.__new__" "NoPiece") rfl),
  He.glo_ok X G (c.fact 84 (f := fun K => (He.Fa.glo "NoDays").ok K) rfl),
  He.glo_ok X G (c.fact 85 (f := fun K => (He.Fa.glo "NoCard").ok K) rfl),
  He.glo_ok X G (c.fact 86 (f := fun K => (He.Fa.glo "NoName").ok K) rfl),
  He.glo_ok X G (c.fact 87 (f := fun K => (He.Fa.glo "NoRow").ok K) rfl),
  He.glo_ok X G (c.fact 88 (f := fun K => (He.Fa.glo "NoText").ok K) rfl),
  He.glo_ok X G (c.fact 89 (f := fun K => (He.Fa.glo "Short").ok K) rfl),
  He.glo_ok X G (c.fact 90 (f := fun K => (He.Fa.glo "At").ok K) rfl),
  He.glo_ok X G (c.fact 91 (f := fun K => (He.Fa.glo "Over").ok K) rfl),
  He.glo_ok X G (c.fact 92 (f := fun K => (He.Fa.glo "Spread").ok K) rfl),
  He.cls_ok (c.fact 93 (f := fun K => (He.Fa.cls "At").ok K) rfl),
  insC_of (c.fact 94 (f := insB "At") rfl),
  He.noat_ok (c.fact 95 (f := fun K => (He.Fa.noat "At" "moment").ok K) rfl),
  He.meth_ok (c.fact 96 (f := fun K => (He.Fa.meth "At" "moments").ok K) rfl),
  He.meth_ok (c.fact 97 (f := fun K => (He.Fa.meth "At" "begins").ok K) rfl),
  He.meth_ok (c.fact 98 (f := fun K => (He.Fa.meth "At" "ends").ok K) rfl),
  He.meth_ok (c.fact 99 (f := fun K => (He.Fa.meth "At" "means_many").ok K) rfl),
  He.meth_ok (c.fact 100 (f := fun K => (He.Fa.meth "At" "nested").ok K) rfl),
  He.meth_ok (c.fact 101 (f := fun K => (He.Fa.meth "At" "__str__").ok K) rfl),
  He.mkr_ok (c.fact 102 (f := fun K => (He.Fa.mkr "At").ok K) rfl),
  of_decide_eq_true (c.fact 103 (f := kitF "At" "Short" true) rfl),
  of_decide_eq_true (c.fact 104 (f := kitFT "At" "str" false) rfl),
  He.cls_ok (c.fact 105 (f := fun K => (He.Fa.cls "Over").ok K) rfl),
  insC_of (c.fact 106 (f := insB "Over") rfl),
  He.noat_ok (c.fact 107 (f := fun K => (He.Fa.noat "Over" "kept").ok K) rfl),
  He.noat_ok (c.fact 108 (f := fun K => (He.Fa.noat "Over" "many").ok K) rfl),
  He.noat_ok (c.fact 109 (f := fun K => (He.Fa.noat "Over" "step").ok K) rfl),
  He.meth_ok (c.fact 110 (f := fun K => (He.Fa.meth "Over" "moments").ok K) rfl),
  He.meth_ok (c.fact 111 (f := fun K => (He.Fa.meth "Over" "begins").ok K) rfl),
  He.meth_ok (c.fact 112 (f := fun K => (He.Fa.meth "Over" "ends").ok K) rfl),
  He.meth_ok (c.fact 113 (f := fun K => (He.Fa.meth "Over" "means_many").ok K) rfl),
  He.meth_ok (c.fact 114 (f := fun K => (He.Fa.meth "Over" "nested").ok K) rfl),
  He.meth_ok (c.fact 115 (f := fun K => (He.Fa.meth "Over" "__str__").ok K) rfl),
  He.mkr_ok (c.fact 116 (f := fun K => (He.Fa.mkr "Over").ok K) rfl),
  of_decide_eq_true (c.fact 117 (f := kitF "Over" "Short" true) rfl),
  of_decide_eq_true (c.fact 118 (f := kitFT "Over" "str" false) rfl),
  He.cls_ok (c.fact 119 (f := fun K => (He.Fa.cls "Spread").ok K) rfl),
  insC_of (c.fact 120 (f := insB "Spread") rfl),
  He.noat_ok (c.fact 121 (f := fun K => (He.Fa.noat "Spread" "kept").ok K) rfl),
  He.noat_ok (c.fact 122 (f := fun K => (He.Fa.noat "Spread" "held").ok K) rfl),
  He.meth_ok (c.fact 123 (f := fun K => (He.Fa.meth "Spread" "moments").ok K) rfl),
  He.meth_ok (c.fact 124 (f := fun K => (He.Fa.meth "Spread" "__str__").ok K) rfl),
  He.mkr_ok (c.fact 125 (f := fun K => (He.Fa.mkr "Spread").ok K) rfl),
  of_decide_eq_true (c.fact 126 (f := kitFT "Spread" "str" false) rfl),
  of_decide_eq_true (c.fact 127 (f := exm1F "NoTime" "NoTime" true) rfl),
  of_decide_eq_true (c.fact 128 (f := exm1F "NoPiece" "GoingError" true) rfl),
  excC_of (c.fact 129 (f := excCB "NoPiece") rfl),
  of_decide_eq_true (c.fact 130 (f := kitF "NoPiece" "NoTime" false) rfl),
  of_decide_eq_true (c.fact 131 (f := kitF "NoPiece" "NoPiece" true) rfl),
  of_decide_eq_true (c.fact 132 (f := kitF "NoPiece" "NoDays" false) rfl),
  of_decide_eq_true (c.fact 133 (f := kitF "NoPiece" "NoCard" false) rfl),
  of_decide_eq_true (c.fact 134 (f := kitF "NoPiece" "NoName" false) rfl),
  of_decide_eq_true (c.fact 135 (f := kitF "NoPiece" "NoRow" false) rfl),
  of_decide_eq_true (c.fact 136 (f := kitF "NoPiece" "NoText" false) rfl),
  of_decide_eq_true (c.fact 137 (f := kitFT "NoPiece" "ValueError" true) rfl),
  c.def_ 0 (d := d_is_whole) rfl,
  c.def_ 1 (d := d_is_moment) rfl,
  c.def_ 2 (d := d_want_moment) rfl,
  c.def_ 3 (d := d_want_below) rfl,
  c.def_ 4 (d := d_moment_at) rfl,
  c.def_ 5 (d := d_clock_of) rfl,
  c.def_ 6 (d := d_show_moment) rfl,
  c.def_ 7 (d := d_are_figures) rfl,
  c.def_ 8 (d := d_number_of) rfl,
  c.def_ 9 (d := d_day_of) rfl,
  c.def_ 10 (d := d_read_moment) rfl,
  c.def_ 11 (d := d_is_number) rfl,
  c.def_ 12 (d := d_all_rising) rfl,
  c.def_ 13 (d := d_shorts_in) rfl,
  c.def_ 14 (d := d_row_moments) rfl,
  c.def_ 15 (d := d_row_many) rfl,
  c.def_ 16 (d := d_row_text) rfl,
  c.def_ 17 (d := d_At_init) rfl,
  c.def_ 18 (d := d_At_moments) rfl,
  c.def_ 19 (d := d_At_begins) rfl,
  c.def_ 20 (d := d_At_ends) rfl,
  c.def_ 21 (d := d_At_means_many) rfl,
  c.def_ 22 (d := d_At_nested) rfl,
  c.def_ 23 (d := d_At_str) rfl,
  c.def_ 24 (d := d_Over_init) rfl,
  c.def_ 25 (d := d_Over_moments) rfl,
  c.def_ 26 (d := d_Over_begins) rfl,
  c.def_ 27 (d := d_Over_ends) rfl,
  c.def_ 28 (d := d_Over_means_many) rfl,
  c.def_ 29 (d := d_Over_nested) rfl,
  c.def_ 30 (d := d_Over_str) rfl,
  c.def_ 31 (d := d_Spread_init) rfl,
  c.def_ 32 (d := d_Spread_moments) rfl,
  c.def_ 33 (d := d_Spread_str) rfl,
  c.def_ 34 (d := d_number_in) rfl,
  c.def_ 35 (d := d_at_in) rfl,
  c.def_ 36 (d := d_item_end) rfl,
  c.def_ 37 (d := d_over_in) rfl,
  c.def_ 38 (d := d_read_on) rfl,
  c.def_ 39 (d := d_read_spread) rfl,
  c.def_ 40 (d := d__law_pot) rfl,
  c.def_ 41 (d := d__law_draw) rfl,
  c.def_ 42 (d := d__law_moments) rfl,
  c.def_ 43 (d := d__law_row_moments) rfl,
  c.def_ 44 (d := d__law_wide) rfl,
  c.def_ 45 (d := d__law_gap) rfl,
  c.def_ 46 (d := d__law_short) rfl,
  c.def_ 47 (d := d__law_row) rfl,
  c.def_ 48 (d := d__law_spread) rfl,
  c.def_ 49 (d := d__law_time) rfl,
  c.def_ 50 (d := d__law_word) rfl,
  c.def_ 51 (d := d__law_text) rfl,
  c.def_ 52 (d := d__law_word_of) rfl,
  c.def_ 53 (d := d__law_is_refused) rfl,
  c.def_ 54 (d := d__law_begin) rfl,
  c.def_ 55 (d := d__law_end) rfl,
  c.def_ 56 (d := d__law_many) rfl,
  c.def_ 57 (d := d__law_is_row) rfl,
  c.def_ 58 (d := d__law_number) rfl,
  c.def_ 59 (d := d__law_at_in) rfl,
  c.def_ 60 (d := d__law_over_in) rfl,
  c.def_ 61 (d := d__law_stop) rfl,
  c.def_ 62 (d := d__law_next) rfl,
  c.def_ 63 (d := d__law_read) rfl,
  c.def_ 64 (d := d__law_signs) rfl,
  c.def_ 65 (d := d__law_over_bent) rfl,
  c.def_ 66 (d := d__law_row_bent) rfl,
  c.def_ 67 (d := d__law_spoilt) rfl,
  c.def_ 68 (d := d__law_right) rfl,
  c.def_ 69 (d := d_law) rfl⟩
end Toy
open PySem PySem.W PySem.Calls PyProof.Rows
set_option maxRecDepth 100000 in
set_option maxHeartbeats 0 in
theorem PySem.Challenge.cw_shortgoings_k25_texts_of_no_spread_holds : PySem.Challenge.rw_shortgoings_k25_texts_of_no_spread.Holds := by
  w_on; o_law
  refine HandSHeadRun.head_any (r := OpenLaw.row PySem.Challenge.rw_shortgoings_k25_texts_of_no_spread) (q := view (OpenLaw.row PySem.Challenge.rw_shortgoings_k25_texts_of_no_spread).prog [82]) (H := Toy.hk) (ob := Toy.ob) (M := 9000) (loose := Toy.nss) (d := HandSHeadRun.topDef (OpenLaw.row PySem.Challenge.rw_shortgoings_k25_texts_of_no_spread).prog 82) (kwd := []) Toy.ob_eq
    (by kernel_rfl) (fun s => by kernel_rfl) Toy.run (by kernel_rfl) (by kernel_rfl) (by kernel_rfl) (by rfl) (by first | assumption | decide +kernel) (by decide +kernel) ⟨rfl, rfl, rfl, rfl, rfl, by decide +kernel⟩ ?hw ?hc
  case hw => w_witness2
  case hc =>
    refine L3.walk_end (l := PySem.Challenge.rw_shortgoings_k25_texts_of_no_spread) (n := 63) (k := 140) (x := "_law_script") rfl (by decide) (by kernel_rfl) (L3.rm_caller.mono (by decide)) ?F
    intro w mg fa h Y G hmg0
    obtain ⟨K, KX, c⟩ := Y
    have hmg : mg ("law" : PySem.Str) = some (.ref fa) := by
      have e : (HandSHeadRun.topDef (OpenLaw.row PySem.Challenge.rw_shortgoings_k25_texts_of_no_spread).prog 82).name = ("law" : PySem.Str) := by kernel_rfl
      rw [← e]
      exact hmg0
    have T := Toy.env_of KX G c
    have e := hmg.symm.trans T.g_law
    cases e
    obtain ⟨fd, F⟩ := T.f_law
    have b := L2.FunD.bindsA (ps := ["_law_script"]) F fun _ _ _ _ _ _ us hl => match us, hl with | [_], _ => rfl
    exact ⟨K, fd, Toy.sp_law K, KX, fun s v => b s [v] rfl, fun H a ns hl hS => ⟨a, ns, rfl, hS, hl, fun _ => rfl⟩, fun base _ _ => Toy.ok_law T F⟩
